import PyProof.Rows.All
import Wide.All
import OpenK.AllK
import Wide.FinOn
import HandS.ForMost
import HandS.TupAny
import HandS.Exc
import HandS.Star
import KE.KExcSuper
import HandS.ExcInit
import HandS.ExcValue
import HandS.IsInst
import HandS.ExcIs
import HandS.ExcField
import KE.KExcIs
import HandS.Lambda
import HandS.Deep
import HandS.Wide
import HandS.Conv
import PyProof.Rows.StrRev
import KE.GoesMore
import HandS.Zip
import HandS.FStr
import HandS.Comp
import HandS.Small
import HandS.Words
import HandS.WordsExc
import HandS.ExcOwn
import HandS.Ends
import HandS.EndTab
import HandS.HeadHook3
import PyProof.StrLawsRepr
import PySem.Challenge.RW_typesunwritten_k02_texts_of_no_reading
set_option Elab.async false
set_option linter.all false
set_option maxRecDepth 100000
set_option maxHeartbeats 4000000
/-! PyX1: an own exception whose __init__ says super().__init__(value); self.value = value, made. -/
namespace PyEv
open PySem PySem.W PySem.Calls PyProof.Rows PySem.Spec

abbrev tuBody : List Stmt :=
  [.Expr (.Call (.Attribute (.Call (.Name "super" ⟨5, 8, 5, 13⟩) [] [] ⟨5, 8, 5, 15⟩) "__init__" ⟨5, 8, 5, 24⟩) [.Name "value" ⟨5, 25, 5, 30⟩] [] ⟨5, 8, 5, 31⟩) ⟨5, 8, 5, 31⟩, .Assign [.Attribute (.Name "self" ⟨6, 8, 6, 12⟩) "value" ⟨6, 8, 6, 18⟩] (.Name "value" ⟨6, 21, 6, 26⟩) ⟨6, 8, 6, 26⟩]
abbrev tuScope : Scope := { kind := .function, names := [("self", .local), ("value", .local), ("__class__", .free), ("super", .globalImplicit)], isGenerator := false, isCoroutine := false, more := [] }

/-- what the written part says of the class C, its __init__ at f, D the class that it stands in -/
structure TuC (prog : Program) (K : PySem.W.Frag) (C f : Addr) : Prop where
  cls : L2.OexC K C
  look : ∃ (D cc cda : Addr) (params : Arguments) (ar : Arg) (q : Str) (dV kV doc pm ct oc : Value) (an od : Option Addr) (osl : Array (Option Value)) (ccl cl : Value) (cdd cld : Option Addr) (ccs csl : Array (Option Value)) (vs : Array Value) (file : Str) (tf : Tok) (cdD : ClassData),
    K.lookup f = some ⟨oc, od, .func (ksFn "__init__" q params tuBody tuScope dV kV doc pm an (.ref cda) ct cc), osl⟩ ∧ codeIn K (.ref cda) q = true ∧
    (∀ (s : Shared) (u v : Value), BindsTo s (ksFn "__init__" q params tuBody tuScope dV kV doc pm an (.ref cda) ct cc) ⟨[u, v], []⟩ [("self", u), ("value", v)]) ∧
    (params.posonlyargs ++ params.args).head? = some ar ∧ ar.arg = ("self" : Str) ∧
    K.lookup cda = some ⟨ccl, cdd, .fields vs, ccs⟩ ∧ vs[2]? = some (.str file tf) ∧ ((prog.main.file : Str) == file) = true ∧
    K.lookup cc = some ⟨cl, cld, .cell (some (.ref D)), csl⟩ ∧ clsIn K D = some cdD ∧ mroIn K C (.ref D) = some true ∧
    ks_superIn K C D "__init__" = some (some (.builtin "ValueError.__init__"))
  sub : subIn K (.ref C) (.type "ValueError") = some true
  any : nsIn K cStatics "thirdparty.any" = some none
  top : (prog.main.scope.names.lookup ("super" : Str)).isSome = false
  noV : findIn K (.ref C) "value" = some none

section
variable {prog : Program} {w : World} {A : Around} {s : Shared} {K : PySem.W.Frag} {mg mb : Str → Option Value} {R : Result → Shared → Prop} {C f x t0 : Addr} {u : Value}
theorem tu_init (T : TuC prog K C f) (hroom : A.depth < recursionLimit) (X : K.In s.heap) (hlim : s.heap.NoLimit) (hx : s.heap.get? x = some (PySem.HandSPX.excO C t0))
    (hg : s.heap.Ns mainGlobals mg) (hb : s.heap.Ns builtinsNs mb) (hbb : ∀ x : Str, x ≠ "__name__" → mb x = bootBuiltins x) (hsup : mg "super" = none) (hxK : K.lookup x = none)
    (h : ∀ h' tk' dx t1, (∀ b o, b ≠ x → s.heap.get? b = some o → h'.get? b = some o) → s.heap.objs.size ≤ dx → h'.get? x = some { cls := .ref C, dict := some dx, data := .fields #[.ref t1, .none, .none, .none, .bool false, .none] } →
      h'.Ns1 dx (fun y => if y = "value" then some u else none) → R (.ok (.ret .none)) { s with heap := h', toks := tk' }) :
    codeAny (model prog w) A (.call (.ref f) ⟨[.ref x, u], []⟩) R s := by
  obtain ⟨D, cc, cda, params, ar, q, dV, kV, doc, pm, ct, oc, an, od, osl, ccl, cl, cdd, cld, ccs, csl, vs, file, tf, cdD, lk, hcd, hbind, hhead, har, hco, hvs, hfile, hcell, hD, hmro, hm⟩ := T.look
  refine ks_codeAny_call_defAt hroom (X _ _ lk) rfl hlim (codeRec_of X hcd) rfl (hbind s (.ref x) u) (show ∀ y ∈ tuScope.names, y.2 ≠ .cell by decide +kernel) ?_ (fun h₀ hns hk => ?_)
  · intro y hy
    simp only [List.mem_cons, List.not_mem_nil, or_false] at hy
    rcases hy with rfl | rfl <;> rfl
  have X0 : K.In h₀ := X.keeps hk
  have hx0 : h₀.get? x = some (PySem.HandSPX.excO C t0) := hk _ _ hx
  refine ks_wpAt_execs_cons (ks_wpAt_Expr_any (ks_wpAt_MethodCall ?_))
  refine ks_wpAt_super_base rfl rfl (by decide) rfl (X0 _ _ lk) rfl hhead rfl (X0 _ _ hco) rfl hvs hfile T.top ?_
  have hg0 : h₀.Ns mainGlobals mg := hg.keeps hk
  have hb0 : h₀.Ns builtinsNs mb := hb.keeps hk
  obtain ⟨nm, qn, N, bs, bm, sn, sub, ab, col, dd, k0, k1, k2, k3, k5, hC, hbm⟩ := T.cls.cls
  have hcl : PySem.W.clsIn K C = some { name := nm, bases := bs, mro := .ref C :: bm, ns := N, qualname := qn, hasDict := true, slotNames := sn, subclasses := sub, abstract := ab, collection := col, hasDel := false } := by unfold PySem.W.clsIn; rw [hC] <;> rfl
  obtain ⟨oD, hD1, hD2⟩ : ∃ oD, h₀.get? D = some oD ∧ oD.data = .cls cdD := by
    unfold clsIn at hD
    split at hD
    · rename_i c d cd' sl ho
      cases hD
      exact ⟨_, X0 _ _ ho, rfl⟩
    · cases hD
  obtain ⟨hp, g, dr, tk, os⟩ := s
  refine ks_loadName_global rfl rfl (loadGlobal_builtin hg0 hsup hb0 ((hbb _ (by decide)).trans (show bootBuiltins "super" = some (.type "super") by decide +kernel)) ⟨rfl, ?_⟩)
  refine wpAny_loadName_free rfl rfl rfl ⟨_, X0 _ _ hcell, rfl⟩ ?_
  refine wpAny_loadName_local rfl (by rw [har]; rfl) hns (v := .ref x) (by rw [har]; rfl) ?_
  refine ks_wpAny_isType_cls hD1 hD2 ⟨rfl, ?_⟩
  refine ks_wpAny_call_super hD1 hD2 hx0 rfl (fun c e => by cases e) (looks_mroIn X0 hmro) (fun h1 hso hk1 => ?_)
  have X1 : K.In h1 := X0.keeps hk1
  have hx1 : h1.get? x = some (PySem.HandSPX.excO C t0) := hk1 _ _ hx0
  have I1 : InstAt h1 x (PySem.HandSPX.excO C t0) C none := ⟨hx1, rfl, rfl, trivial⟩
  have hm' : alongIn K "__init__" (((Value.ref C :: bm).dropWhile (· != .ref D)).drop 1) = some (some (.builtin "ValueError.__init__")) := by
    unfold ks_superIn at hm
    rw [hcl] at hm
    exact hm
  refine kxs_getMethod kxs_ValueError hso (looks_opaque X1 T.any) (l₀ := .ref C :: bm) (fun A Q E s k q => wpAny_bind ((looks_clsIn X1 hcl) A _ E s k (wpAny_pure q))) rfl X1 hm' (I1.type.andThen (looks_subIn X1 T.sub)) (ks_ne X1 I1 hcl) (by decide) ?_
  have hmw : (h1.push (kxs_mw "ValueError.__init__" x)).get? h1.objs.size = some (kxs_mw "ValueError.__init__" x) := Heap.get?_push_at rfl rfl
  have kp : ∀ b o, h1.get? b = some o → (h1.push (kxs_mw "ValueError.__init__" x)).get? b = some o := fun b o e => Heap.get?_push_of_some _ e
  generalize (h1.push (kxs_mw "ValueError.__init__" x)) = h2 at hmw kp ⊢
  generalize hu : h1.objs.size = mw at hmw ⊢
  have ns2 : h2.Ns hp.objs.size (fun y => [(Str.ofString "self", Value.ref x), (Str.ofString "value", u)].reverse.lookup y) := (hns.keeps hk1).keeps kp
  have X2 : K.In h2 := X1.keeps kp
  have hx2 : h2.get? x = some (PySem.HandSPX.excO C t0) := kp _ _ hx1
  refine kxs_callWith (i := "ValueError.__init__") (x := x) (by rfl) (evalArgs_plain (Calls.spliced_cons (wpAny_Name (wpAny_loadName_local rfl rfl ns2 (v := u) rfl (Calls.spliced_nil ⟨hmw, ?_⟩)))))
  refine wpAny_call (codeAny_of_tree ?_)
  show wpAny _ _ (callAny (.ref mw) ⟨[u], []⟩) _ _ _
  simp only [callAny]
  refine wpAny_bind (wpAny_load hmw ?_)
  simp only [kxs_mw, show (Value.type "method-wrapper" == Value.type "method" || Value.type "method-wrapper" == Value.type "builtin_function_or_method" || Value.type "method-wrapper" == Value.type "method-wrapper") = true by decide, if_true]
  refine KFB.if_so (by decide) ?_
  refine wpAny_bind (check_bound_init F.excBase_ValueError.toExcCallFacts (X2 _ _ hC) hx2 rfl ?_)
  refine wpAny_bind (wpAny_pure (wpAny_pure ?_))
  refine ⟨plainId_quiet F.excBase_ValueError.init.plain _, codeAny_builtin F.excBase_ValueError.initEntry ?_⟩
  refine exc_init_tree (cls := .ref C) (t0 := t0) (dv := none) (c2 := .none) (c3 := .none) (b4 := .bool false) hx2 (by show 1 ≤ sizeLine; rw [sizeLine_eq]; omega) (fun h3 k3' e3 t3 => ?_)
  have nL : hp.objs.size ≠ x := Nat.ne_of_gt (Heap.lt_size hx)
  have ns3 : h3.Ns hp.objs.size (fun y => [(Str.ofString "self", Value.ref x), (Str.ofString "value", u)].reverse.lookup y) := by
    obtain ⟨o, es, ep, e1, e2, e4⟩ := ns2
    exact ⟨o, es, ep, k3' _ _ nL e1, e2, e4⟩
  have xC : x ≠ C := ks_ne X1 I1 hcl
  have hC2 := X2 _ _ hC
  show _root_.PySem.wpAt _ _ _ (execs [_] _) _ _ _
  refine ks_wpAt_execs_cons (ks_wpAt_Assign_Attr (wpAt_of_wpAny (wpAny_Name (wpAny_loadName_local rfl rfl ns3 (v := u) rfl (wpAny_Name (wpAny_loadName_local rfl rfl ns3 (v := .ref x) rfl ?_))))))
  have X3 : K.In h3 := fun b o e => k3' b o (fun z => by rw [z, hxK] at e; cases e) (X2 b o e)
  refine set_plain (s := ⟨h3, g, dr, _, os⟩) X3 (ox := { cls := .ref C, dict := none, data := .fields #[.ref h2.objs.size, .none, .none, .none, .bool false, .none] }) (od := none) ⟨e3, rfl, rfl, trivial⟩ T.cls.sa ?_
  refine PySem.HandSPX.exc_osa X3 e3 hcl (show PySem.HandSPX.refsVE (.ref C :: bm) = true from hbm) rfl T.noV (fun h' tk' dx k dn dne hx hn => ?_)
  refine wpAt_of_wpAny (wpAny_execs_nil ?_)
  have up : ∀ b o, b ≠ x → hp.get? b = some o → h'.get? b = some o := fun b o nb e => k b o nb (k3' b o nb (kp _ _ (hk1 _ _ (hk b o e))))
  refine h h' tk' dx h2.objs.size up ?_ hx hn
  have l1 : hp.objs.size < h3.objs.size := by
    obtain ⟨o, es, ep, e1, _⟩ := ns3
    exact Heap.lt_size e1
  exact Nat.le_of_lt (Nat.lt_of_lt_of_le l1 dn)
end
end PyEv

set_option maxRecDepth 100000
set_option maxHeartbeats 4000000
/-! PyX2: own exceptions with a value: made, raised, kept, read. -/
namespace PyEv
open PySem PySem.Spec L2

/-- an exception of the class at C at a, its dict at d -/
def ExV (C d a : Addr) : HO := .ext fun h => ∃ (oe : Obj) (vs : Array Value), h.get? a = some oe ∧ Zc (.ref C) (some d) oe ∧ oe.data = .fields vs
theorem exV_ok {P : Program} {w : World} {H : Hp} {h : Heap} {C d a : Addr} {oe : Obj} {vs : Array Value} (e : h.get? a = some oe) (z : Zc (.ref C) (some d) oe) (dt : oe.data = .fields vs) : ObjOk P w H h a (ExV C d a) :=
  ⟨⟨oe, vs, e, z, dt⟩, ⟨oe, e⟩, fun _ _ ⟨o, v, q, r⟩ k => ⟨o, v, k o q, r⟩⟩
theorem exV_at {P : Program} {w : World} {H : Hp} {h : Heap} {C d a : Addr} (hok : HOk P w H h) (e : H a = some (ExV C d a)) : ∃ (oe : Obj) (vs : Array Value), h.get? a = some oe ∧ Zc (.ref C) (some d) oe ∧ oe.data = .fields vs :=
  let ⟨z, _⟩ := hok a _ e; z
theorem exV_inj {C d C' d' a : Addr} {P : Program} {w : World} {H : Hp} {h : Heap} (hok : HOk P w H h) (e : H a = some (ExV C d a)) (e' : H a = some (ExV C' d' a)) : C = C' ∧ d = d' := by
  obtain ⟨oe, _, h1, h2, _⟩ := exV_at hok e
  obtain ⟨oe', _, h1', h2', _⟩ := exV_at hok e'
  rw [h1] at h1'; cases h1'
  exact ⟨by have := h2.1.symm.trans h2'.1; cases this; rfl, by have := h2.2.symm.trans h2'.2; cases this; rfl⟩

section
variable {X : Cx} {pins : List (Addr × Obj)} {σ : St} {H : Hp} {s : Shared} {C f : Addr} {u : Value} {v : V} {Q : Value → Shared → Prop} {E : Value → Shared → Prop}
theorem tu_call (T : TuC X.prog X.K C f) (iC : PySem.W.findIn X.K (.ref C) "__init__" = some (some (.ref f))) (tI : PySem.W.typeIn X.K (.ref f) = some (.type "function")) (hr : Room 2 X.A) (hsup : X.mg "super" = none) (I : Inv X pins σ H s) (r : RelV v u)
    (h : ∀ (a d : Addr) (oe : Obj) (vs : Array Value) (G : Heap) (s' : Shared), s'.os = s.os → s'.gens = s.gens → s'.drawn = s.drawn → Inv X pins σ (upd H d (.xd [("value", v)])) ⟨G, s.gens, s.drawn, s'.toks, s.os⟩ → (∀ b o, G.get? b = some o → s'.heap.get? b = some o) → G.get? a = none → s'.heap.get? a = some oe →
      Zc (.ref C) (some d) oe → oe.data = .fields vs → vs[1]? = some .none → H d = none → H a = none → (upd H d (.xd [("value", v)])) a = none → Q (.ref a) s') :
    wpAny (model X.prog X.w) X.A (call (.ref C) [u]) Q E s := by
  obtain ⟨nm, q, N, bs, bm, sn, sub, ab, col, dd, k0, k1, k2, k3, k5, hC, hbm⟩ := T.cls.cls
  obtain ⟨mb, hbl, hbb⟩ := I.mod.blt
  have hgl := I.mod.glob.keeps I.bk
  have hbl := hbl.keeps I.bk
  have kin := I.kIn
  have lim := I.nolimit
  obtain ⟨hp, g, dr, tk, os⟩ := s
  have kk : ∀ b o, hp.get? b = some o → ((hp.push (PySem.W.kdv_tup [u])).push (PySem.HandSPX.excO C hp.objs.size)).get? b = some o := fun b o e => Heap.get?_push_of_some _ (Heap.get?_push_of_some _ e)
  have hget : ((hp.push (PySem.W.kdv_tup [u])).push (PySem.HandSPX.excO C hp.objs.size)).get? (hp.objs.size + 1) = some (PySem.HandSPX.excO C hp.objs.size) := by heap_get
  have hxK : X.K.lookup (hp.objs.size + 1) = none := by
    cases e : X.K.lookup (hp.objs.size + 1) with
    | none => rfl
    | some o =>
      have this : hp.objs.size + 1 < hp.objs.size := Heap.lt_size (kin _ _ e)
      omega
  refine wpAny_call (PySem.HandSPX.call_own F.excBase_ValueError (fun Y => PySem.HandSPX.refsVE_contains Y bm hbm) (kin _ _ hC) (PySem.W.looks_findIn kin iC) (fun self => PySem.W.bind_fn kin self tI) (by show 1 ≤ sizeLine; rw [sizeLine_eq]; omega)
    (tu_init T (hr.make C [u] []).depth (kin.keeps kk) (lim.keeps kk) hget (hgl.keeps kk) (hbl.keeps kk) hbb hsup hxK fun h' tk' dx t1 k hdx hx hn => ?_))
  refine ⟨rfl, ?_⟩
  have hsz : hp.objs.size ≤ hp.objs.size + 1 := Nat.le_succ _
  have sz2 : ((hp.push (PySem.W.kdv_tup [u])).push (PySem.HandSPX.excO C hp.objs.size)).objs.size = hp.objs.size + 2 := by simp [Heap.push]
  have hdx' : hp.objs.size + 2 ≤ dx := by
    have := hdx
    rw [show (Shared.heap ⟨(hp.push (PySem.W.kdv_tup [u])).push (PySem.HandSPX.excO C hp.objs.size), g, dr, tk, os⟩ : Heap) = (hp.push (PySem.W.kdv_tup [u])).push (PySem.HandSPX.excO C hp.objs.size) from rfl, sz2] at this
    exact this
  have hda : dx ≠ hp.objs.size + 1 := by omega
  have hn1 : H (hp.objs.size + 1) = none := I.hok.fresh hsz
  have hnd : H dx = none := I.hok.fresh (show hp.objs.size ≤ dx by omega)
  obtain ⟨G, g1', g2'⟩ := restrict h' fun b => decide (b ≠ hp.objs.size + 1)
  have gk : ∀ b, b ≠ hp.objs.size + 1 → G.get? b = h'.get? b := fun b hb => g1' b (decide_eq_true hb)
  have ge : G.get? (hp.objs.size + 1) = none := g2' _ (by simp)
  have nsG : G.Ns1 dx (fun y => if y = "value" then some u else none) := hn.at fun o y => (gk dx hda).trans y
  have J : Inv X pins σ (upd H dx (.xd [("value", v)])) ⟨G, g, dr, tk', os⟩ := I.laid (t' := tk') (h' := G) (a := dx) (o := .xd [("value", v)])
    (fun b o e => (gk b (Nat.ne_of_lt (Nat.lt_succ_of_lt (Heap.lt_size e)))).trans (k b o (Nat.ne_of_lt (Nat.lt_succ_of_lt (Heap.lt_size e))) (kk b o e))) (show hp.objs.size ≤ dx by omega)
    ⟨_, nsG, fun y => by
      by_cases hy : y = "value"
      · subst hy; exact r
      · have e1 : ([(("value" : Str), v)]).lookup y = none := by
          show (match y == ("value" : Str) with | true => some v | false => none) = none
          rw [beq_eq_false_iff_ne.mpr hy]
        rw [e1, if_neg hy]
        exact True.intro⟩
  refine h (hp.objs.size + 1) dx _ _ G _ rfl rfl rfl J (fun b o e => ?_) ge hx ⟨rfl, rfl⟩ rfl rfl hnd hn1 ?_
  · by_cases hb : b = hp.objs.size + 1
    · rw [hb, ge] at e; cases e
    · exact (gk b hb).symm.trans e
  · rw [upd_ne (Ne.symm hda)]; exact hn1
end

section
variable {X : Cx} {C f : Addr} {x : Str} {e : Expr} {ta : TA} {p pos : Pos}
/-- X(e) as a value -/
theorem pe_mk (T : TuC X.prog X.K C f) (iC : PySem.W.findIn X.K (.ref C) "__init__" = some (some (.ref f))) (tI : PySem.W.typeIn X.K (.ref f) = some (.type "function")) (hr : Room 2 X.A) (hsup : X.mg "super" = none) (hg : Gl X x) (hm : X.mg x = some (.ref C)) (ha : PA X [e] ta)
    (hdb : (x == ("__debug__" : Str)) = false := by decide) (he : starEach [e] X.env = (false, eval e X.env) :: starEach [] X.env := by rfl) :
    PE X (.Call (.Name x p) [e] [] pos) (fun σ H Q => ta σ H fun vs H1 => ∃ v, vs = [v] ∧ ∀ a d, H1 a = none → H1 d = none → a ≠ d → Q (.ref a) (upd (upd H1 d (.xd [("value", v)])) a (ExV C d a))) := by
  refine ⟨fun pins s σ H Q I h => ?_⟩
  refine wpAny_Call_Name_kw (ld_glob I hg hm ?_ hdb)
  refine PySem.W.callWith_K (h₀ := X.base) I.ok.mod.kin T.cls.kC (thn (ha.run pos pins s σ H _ I h) fun us s1 ⟨vs, H1, I1, r1, v, ev, q1⟩ => ⟨I1.kIn, ?_⟩) he (by rfl)
  subst ev
  obtain ⟨u, rfl, ru⟩ := vals1 r1
  show wpAny _ _ (call (.ref C) [u]) _ _ _
  refine tu_call T iC tI hr hsup I1 ru fun a d oe ws G s' e1 e2 e3 J kG ge ho hz hd h1 hnd hna hn => ?_
  obtain ⟨h', g', d', t', o'⟩ := s'
  dsimp only at e1 e2 e3 J kG ho
  subst e1 e2 e3
  have hda : a ≠ d := fun z => by
    rw [z, upd_same] at hn; cases hn
  have J2 := J.laidN (h' := h') (a := a) (o := ExV C d a) (t' := t') kG ge hn (exV_ok ho hz hd)
  exact ⟨.ref a, _, J2, rfl, q1 a d hna hnd hda⟩
/-- X(e), to be raised -/
theorem pmk_tu (T : TuC X.prog X.K C f) (iC : PySem.W.findIn X.K (.ref C) "__init__" = some (some (.ref f))) (tI : PySem.W.typeIn X.K (.ref f) = some (.type "function")) (hr : Room 2 X.A) (hsup : X.mg "super" = none) (hg : Gl X x) (hm : X.mg x = some (.ref C)) (ha : PA X [e] ta)
    (hdb : (x == ("__debug__" : Str)) = false := by decide) (he : starEach [e] X.env = (false, eval e X.env) :: starEach [] X.env := by rfl) :
    PMk X (.Call (.Name x p) [e] [] pos) (fun σ H Q => ta σ H fun vs H1 => ∃ v, vs = [v] ∧ ∀ d, H1 d = none → Q (.ref C) (some d) (upd H1 d (.xd [("value", v)]))) := by
  intro pins s σ H Q I h
  refine wpAny_Call_Name_kw (ld_glob I hg hm ?_ hdb)
  refine PySem.W.callWith_K (h₀ := X.base) I.ok.mod.kin T.cls.kC (thn (ha.run pos pins s σ H _ I h) fun us s1 ⟨vs, H1, I1, r1, v, ev, q1⟩ => ⟨I1.kIn, ?_⟩) he (by rfl)
  subst ev
  obtain ⟨u, rfl, ru⟩ := vals1 r1
  show wpAny _ _ (call (.ref C) [u]) _ _ _
  refine tu_call T iC tI hr hsup I1 ru fun a d oe ws G s' e1 e2 e3 J kG ge ho hz hd h1 hnd hna hn => ?_
  exact ⟨a, oe, ws, _, _, .ref C, some d, rfl, J, kG, ge, ho, hz, hd, h1, hn, e1, by rw [e2]; exact I1.bare, raises_own T.cls.exC T.cls.tyC, q1 d hnd⟩
/-- where the exception's object and its own dict lie -/
theorem exV_inst {pins : List (Addr × Obj)} {σ : St} {H : Hp} {s : Shared} {a d : Addr} {fs : List (Str × V)} (I : Inv X pins σ H s) (ea : H a = some (ExV C d a)) (ed : H d = some (.xd fs)) :
    ∃ oe od mA, PySem.W.InstAt s.heap a oe C (some od) ∧ s.heap.get? d = some od ∧ s.heap.Ns1 d mA ∧ ∀ f, RelO (fs.lookup f) (mA f) := by
  obtain ⟨oe, vs, h1, h2, h3⟩ := exV_at I.hok ea
  obtain ⟨mA, hns, hr⟩ := (show ObjOk X.prog X.w H s.heap d (.xd fs) from I.hok d _ ed)
  obtain ⟨od, ho, hl⟩ := lookIn_ns hns
  exact ⟨oe, od, mA, ⟨h1, h2.1, by unfold PySem.W.notCls; rw [h3] <;> rfl, by rw [h2.2]; exact ho⟩, ho, hns, hr⟩
/-- e.value -/
theorem pe_val {te : TE} {n : Str} (hno : ∀ C d a, ExV C d a = ExV C d a → True) (he : PE X e te) (hb : attributeBase e n X.env (eval e X.env) = eval e X.env := by rfl) :
    PE X (.Attribute e n pos) (fun σ H Q => te σ H fun x H1 => ∃ (a C d : Addr) (fs : List (Str × V)) (v : V), x = .ref a ∧ XfC X.K C ∧ PySem.W.findIn X.K (.ref C) n = some none ∧ H1 a = some (ExV C d a) ∧ H1 d = some (.xd fs) ∧ fs.lookup n = some v ∧ Q v H1) := by
  refine ⟨fun pins s σ H Q I h => ?_⟩
  refine attr_of hb (thn (he.run pins s σ H _ I h) fun u s1 hh => ?_)
  obtain ⟨x, H1, I1, rx, a, C, d, fs, v, ex, T, hno, ea, ed, l, q⟩ := hh
  subst ex
  obtain rfl : u = Value.ref a := rx
  obtain ⟨oe, od, mA, J, ho, hns, hr⟩ := exV_inst I1 ea ed
  obtain ⟨od', ho', hl⟩ := lookIn_ns hns
  rw [ho] at ho'; cases ho'
  obtain ⟨u, hu, ru⟩ := RelO.some_of (v := v) (o := mA n) (by rw [← l]; exact hr n)
  exact HandSPX.exc_get I1.kIn J T.ga T.gg T.exC (PySem.W.findObj_own T.hdC hno rfl (by rw [hl, hu])) (handed_of ru) ⟨v, H1, I1.tok _, ru, q⟩
/-- isinstance(e, c) of an exception -/
def rIsX (K : PySem.W.Frag) : List V → Hp → VK → Prop := fun xs H Q => ∃ (a C d : Addr) (fs : List (Str × V)) (c : V) (cv : Value) (b : Bool), xs = [.ref a, c] ∧ ExcC K C ∧ H a = some (ExV C d a) ∧ H d = some (.xd fs) ∧ ClsV c cv ∧ PySem.W.kitOne K (.ref C) cv = some b ∧ Q (.bl b) H
theorem call_isX : CallR X (.builtin "isinstance") (rIsX X.K) := by
  intro pins s σ H xs us Q I r h
  obtain ⟨a, C, d, fs, c, cv, b, rfl, T, ea, ed, k, e, q⟩ := h
  obtain ⟨u1, u2, rfl, r1, r2⟩ := vals2 r
  have e2 := k.eq r2
  subst e2
  cases (show u1 = Value.ref a from r1)
  obtain ⟨oe, od, mA, J, _, _, _⟩ := exV_inst I ea ed
  exact PySem.W.kia_one (PySem.W.kitx_exc (by obtain ⟨cd, hc, _⟩ := PySem.W.any_some T.hd; rw [hc]; rfl) T.hg T.hk T.hs T.ha T.hn T.ht T.hm) I.kIn J e (fun z => nomatch z) fun tk => ⟨.bl b, H, I.kept (t' := tk) fun _ _ z => z, rfl, q⟩
end
end PyEv

set_option maxRecDepth 100000
set_option maxHeartbeats 4000000
/-! PyX3: try: body / except X as n: suite, the exception kept behind it. -/
namespace PyEv
open PySem PySem.Spec L2

section
variable {X : Cx} {pins : List (Addr × Obj)} {σ : St} {H : Hp} {s : Shared}
/-- a pinned exception, new since the entry, is tracked from now on -/
theorem track {a C dd : Addr} {oe : Obj} {ws : Array Value} (I : Inv X ((a, oe) :: pins) σ H s) (z : Zc (.ref C) (some dd) oe) (dt : oe.data = .fields ws) (new0 : X.s_0.heap.get? a = none) (np : ∀ p ∈ X.pn ++ pins, p.1 ≠ a) : Inv X pins σ (upd H a (ExV C dd a)) s := by
  obtain ⟨ea, na, nl, nf, nc⟩ := I.pin (a, oe) (by simp)
  have n0 : ∀ {b : Addr} {o : Obj}, X.s_0.heap.get? b = some o → b ≠ a := fun {b o} e y => by rw [y, new0] at e; cases e
  have nH : ∀ {b : Addr} {o : HO}, H b = some o → b ≠ a := fun {b o} e y => by rw [y] at e; exact absurd (na.symm.trans e) (by simp)
  have cellNe : ∀ x c, X.env.cells.lookup x = some c → c ≠ a := fun x c e y => by
    obtain ⟨v, o, e1, e2⟩ := I.cell x c e
    rw [y] at e1
    have := ea.symm.trans e1
    cases this
    exact nc v e2
  refine { ok := I.ok, os := I.os, bare := I.bare, base := ?_, loc := I.loc, cell := I.cell, free := ?_, freeC := ?_, pin := ?_, hok := ?_, len := I.len }
  · exact { keep := I.base.keep, slot := I.base.slot, there := I.base.there
            free := fun b o e n x => by rw [upd_ne (n0 e)]; exact I.base.free b o e n x
            tups := fun b xs e => by have := I.base.tups b xs e; rw [upd_ne (nH this)]; exact this
            frzs := fun b o u e => by have := I.base.frzs b o u e; rw [upd_ne (nH this)]; exact this
            tbls := fun b ps e => by obtain ⟨m, q⟩ := I.base.tbls b ps e; exact ⟨m, by rw [upd_ne (nH q)]; exact q⟩ }
  · rw [upd_ne (Ne.symm nl)]; exact I.free
  · intro x c e
    rw [upd_ne (cellNe x c e)]
    exact I.freeC x c e
  · intro p hp
    obtain ⟨h1, h2, h3⟩ := I.pin p (by
      rcases List.mem_append.mp hp with q | q
      · exact List.mem_append_left _ q
      · exact List.mem_append_right _ (List.mem_cons_of_mem _ q))
    exact ⟨h1, by rw [upd_ne (np p hp)]; exact h2, h3⟩
  · intro b o e
    by_cases hb : b = a
    · subst hb
      rw [upd_same] at e
      cases e
      exact exV_ok ea z dt
    · rw [upd_ne hb] at e
      exact (I.hok b o e).stay (fun _ _ _ q => q) (fun c q => by rw [upd_ne (nH q)]; exact q) fun c xs q => by rw [upd_ne (nH q)]; exact q
/-- out of the suite, with the exception's pin -/
theorem unsuiteP {a : Addr} {q : Addr × Obj} {pn' : List (Addr × Obj)} (I : Inv (X.suite a (q :: (X.pn ++ pins))) pn' σ H s) (ok : X.Ok) : Inv X (q :: pins) σ H s where
  ok := ok
  os := I.os
  bare := I.bare
  base := I.base
  loc := I.loc
  cell := I.cell
  free := I.free
  freeC := I.freeC
  pin := fun p hp => I.pin p (List.mem_append_left _ (by
    rcases List.mem_append.mp hp with h | h
    · exact List.mem_cons_of_mem _ (List.mem_append_left _ h)
    · rcases List.mem_cons.mp h with h | h
      · exact h ▸ List.mem_cons_self
      · exact List.mem_cons_of_mem _ (List.mem_append_right _ h)))
  hok := I.hok
  len := I.len
end

/-- what the clause wishes of an exception of the body -/
def wKeep (K : PySem.W.Frag) (B : Addr) (i : Nat) (ts : Addr → Value → Option Addr → TS) (D : Ends) : WX := fun cls d σ H =>
  ∃ C dd : Addr, cls = .ref C ∧ d = some dd ∧ PySem.W.exmOne K (.ref C) (.ref B) = some true ∧ ∀ a, H a = none →
    ts a cls d { nx := fun σ' H' => D.nx (σ'.set i none) (upd H' a (ExV C dd a)), rt := fun _ _ => False, bk := fun _ _ => False, ct := fun _ _ => False } (σ.set i (some (.ref a))) H
section
variable {X : Cx} {x n : Str} {B : Addr} {i : Nat} {body suite : List Stmt} {b₀ : Stmt} {np pos pos' : Pos} {tb : WX → TS} {ts : Addr → Value → Option Addr → TS}
theorem ps_try_keep (hst : X.stack = X.env :: X.outer) (hfr0 : X.env.frame = some X.env.locals) (hex : X.ex = []) (nd : X.N.Nodup) (hi : X.N[i]? = some n) (hln : X.env.kindOf n = some .local) (hg : Gl X x) (hm : X.mg x = some (.ref B)) (hdb : (x == ("__debug__" : Str)) = false)
    (hb : ∀ (W : WX) (pn : List (Addr × Obj)) (xe : Value → Shared → Prop), Takes (X.tr pn xe) W → PassesOwn (model X.prog X.w) X.A X.env xe → PSs (X.tr pn xe) body (tb W))
    (hsu : ∀ (a : Addr) (oe : Obj) (cls : Value) (d : Option Addr) (pn : List (Addr × Obj)), Zc cls d oe → (∃ vs, oe.data = .fields vs) → PSs (X.suite a ((a, oe) :: pn)) (b₀ :: suite) (ts a cls d)) :
    PS X (.Try body [.ExceptHandler (some (.Name x np)) (some n) (b₀ :: suite) pos'] [] [] pos) (fun D σ H => tb (wKeep X.K B i ts D) D σ H) := by
  constructor
  intro pins s σ H D I0 rd
  have ok := I0.ok
  have frames : X.A.frames = some (X.env :: X.outer) := ok.frames.trans (by rw [hst])
  apply wpAny_Try_except
  have bd := (hb (wKeep X.K B i ts D) (X.pn ++ pins) (fun e s₁ => wpAny (model X.prog X.w) X.A (noteFrame e X.env) (fun _ s₂ => wpAny (model X.prog X.w) X.A (setFlight e none)
    (fun _ s₃ => wpAny (model X.prog X.w) X.A (handleBy e X.env [.ExceptHandler (some (.Name x np)) (some n) (b₀ :: suite) pos']) (SP X pins D) X.xe s₃) X.xe s₂) X.xe s₁) ?tk PassesOwn.looking).run [] s σ H D (I0.toTry _) rd
  · refine wpAny_mono bd (fun fl s1 q => ?_) fun e s1 q => q
    cases fl with
    | next => obtain ⟨σ1, H1, I1, q⟩ := q; exact wpAny_execs_nil ⟨σ1, H1, I1.ofTry ok, q⟩
    | brk => obtain ⟨σ1, H1, I1, q⟩ := q; exact ⟨σ1, H1, I1.ofTry ok, q⟩
    | cont => obtain ⟨σ1, H1, I1, q⟩ := q; exact ⟨σ1, H1, I1.ofTry ok, q⟩
    | ret u => obtain ⟨v1, σ1, H1, I1, r1, q⟩ := q; exact ⟨v1, σ1, H1, I1.ofTry ok, r1, q⟩
  · rintro u s1 ⟨a, B0, sI, pins1, σ1, H1, cls, d, rfl, J0, nb, up, sky, na, os, ag, C, dd, rfl, rfl, hex1, yes⟩
    have J : Inv X pins σ1 H1 sI := J0.ofTry ok
    have sky1 : Sky B0 (X.env :: X.outer) a (Zc (.ref C) (some dd)) X.env.locals s1.heap := hst ▸ sky
    show wpAny (model X.prog X.w) X.A (noteFrame (.ref a) X.env) _ _ _
    refine Sky.land Zc.steady frames hfr0 sky1 fun h3 fly u3 => ?_
    obtain ⟨o3, w3, at3, z3, d3⟩ := fly.there
    have nfr : a ∉ frs (X.env :: X.outer) := fun hm => by
      obtain ⟨_, o', e', no⟩ := (show h3.FunFrames B0 (X.env :: X.outer) from fly.2.2.1).mem hm
      rw [show h3.get? a = some o3 from at3] at e'
      cases e'
      exact no _ d3
    have nL : a ≠ X.env.locals := fun y => nfr (List.mem_filterMap.mpr ⟨X.env, List.mem_cons_self, by rw [hfr0, y]⟩)
    have nF : a ∉ X.fs := fun hm => by
      obtain ⟨e, he, q⟩ := List.mem_filterMap.mp hm
      exact nfr (List.mem_filterMap.mpr ⟨e, List.mem_cons_of_mem _ he, q⟩)
    have newI : sI.heap.get? a = none := by
      cases e : sI.heap.get? a with
      | none => rfl
      | some o =>
        have y := nb a o e (by rw [hst]; exact nfr)
        have y2 : B0.get? a = none := fly.2.1
        rw [y2] at y; cases y
    have new0 : X.s_0.heap.get? a = none := by
      cases e : X.s_0.heap.get? a with
      | none => rfl
      | some o =>
        obtain ⟨o', y⟩ := J.base.there a o e (by rw [hex]; simp)
        rw [newI] at y; cases y
    have npin : ∀ p ∈ X.pn ++ pins, p.1 ≠ a := fun p hp y => by
      obtain ⟨y1, _⟩ := J.pin p hp
      rw [y, newI] at y1; cases y1
    have J3 : Inv X pins σ1 H1 ⟨h3, s1.gens, s1.drawn, s1.toks, s1.os⟩ := J.landed (s' := ⟨h3, s1.gens, s1.drawn, s1.toks, s1.os⟩) nb fly.1 (up.trans u3) os ag
    have S3 := J3.suite at3 d3 na nL nF
    refine wpAny_handleBy_cons (codeAny_handlers_test ?_) (by intro q; cases q)
    refine ld_glob (X := X.suite a ((a, o3) :: (X.pn ++ pins))) S3 hg hm ?_ hdb
    have cl : PySem.W.Looks (model X.prog X.w) h3 (typeOf (.ref a)) (.ref C) := fun A Q E s k q => wpAny_typeOf_ref (k _ _ at3) (by rw [z3.1]; exact q)
    refine (PySem.W.exm_one (M := model X.prog X.w) S3.kIn cl hex1).here ?_
    refine codeAny_handlers_suite_as (HandSPX.lands_againZ fly fun h4 fly4 u4 => ?_)
    obtain ⟨o4, w4, at4, z4, d4⟩ := fly4.there
    have J4 : Inv X pins σ1 H1 ⟨h4, s1.gens, s1.drawn, s1.toks, s1.os⟩ := J.landed (s' := ⟨h4, s1.gens, s1.drawn, s1.toks, s1.os⟩) nb fly4.1 ((up.trans u3).trans u4) os ag
    have S4 := J4.suite at4 d4 na nL nF
    refine store_ok (X := X.suite a ((a, o4) :: (X.pn ++ pins))) (v := .ref a) S4 nd hi (.inl hln) rfl (fun s5 S5 => ?_) (.inr hln)
    refine wpAny_mono ((hsu a o4 (.ref C) (some dd) (X.pn ++ pins) z4 ⟨_, d4⟩).run [] s5 _ H1 _ S5 (yes a na)) (fun fl s6 q => ?_) fun _ _ y => y.elim
    cases fl with
    | next =>
      obtain ⟨σ6, H6, S6, q6⟩ := q
      exact gone_ok (unsuiteP S6 ok) nd hi hln fun s7 J7 => ⟨_, _, track J7 z4 d4 new0 npin, q6⟩
    | brk => obtain ⟨_, _, _, q6⟩ := q; exact q6.elim
    | cont => obtain ⟨_, _, _, q6⟩ := q; exact q6.elim
    | ret u => obtain ⟨_, _, _, _, _, q6⟩ := q; exact q6.elim
end
end PyEv

set_option maxRecDepth 100000
/-! PyA: data by structure, a small syntax, its evaluator. -/
namespace PyEv
open PySem (Str PyData)

/-- data that never changes any more -/
inductive D where
  | non | bl (b : Bool) | int (i : Int) | str (s : Str)
  | tup (xs : List D) | lst (xs : List D) | dct (ks : List Str) (vs : List D)
  | scr (ns : List Int)
  | ins (c : Str) (ns : List Str) (vs : List D)
  | exc (c : Str) (v : D)

/-- what a slot holds: data, or an object that this frame alone may change -/
inductive W where
  | d (x : D) | lst (xs : List D) | dct (ks : List Str) (vs : List D)

def W.frz : W → D
  | .d x => x
  | .lst xs => .lst xs
  | .dct ks vs => .dct ks vs

abbrev Env := List (Option W)

/-- an operand: a slot (read when it is used), or a value -/
inductive Ar where
  | vr (i : Nat) | val (w : W)

inductive Res (α : Type) where
  | ok (a : α) (env : Env) | exc (x : D) (env : Env) | bad

def Res.bind {α β : Type} (r : Res α) (f : α → Env → Res β) : Res β := match r with
  | .ok a env => f a env
  | .exc x env => .exc x env
  | .bad => .bad
/-- where nothing may be raised -/
def Res.noX {α : Type} : Res α → Res α
  | .ok a env => .ok a env
  | _ => .bad
def Res.of {α : Type} (o : Option α) (env : Env) : Res α := match o with
  | some a => .ok a env
  | none => .bad

/-- constants -/
inductive C where
  | non | bl (b : Bool) | int (i : Int) | str (s : Str)
def C.d : C → D
  | .non => .non
  | .bl b => .bl b
  | .int i => .int i
  | .str s => .str s

/-- operators of two operands -/
inductive Bo where
  | add | sub | mul | fdv | mod | pow
/-- comparisons -/
inductive Co where
  | eq | ne | lt | le | gt | ge | isN | notN | isin | notin
/-- built-in functions of one operand -/
inductive Bi where
  | len | tuple | list | all | any | repr | abs | int
/-- built-in types that isinstance asks for -/
inductive Ty where
  | str | int | bool | tuple | list | dict
/-- methods of built-in types that change nothing -/
inductive Bm where
  | join | split | startswith | get1 | get2
/-- methods that change the object in a slot -/
inductive Mm where
  | append | extend | popAt

/-- targets -/
inductive Tg where
  | one (i : Nat) | two (i j : Nat) | three (i j k : Nat)

mutual
inductive E where
  | var (i : Nat)
  | k (c : C)
  | glob (x : Str)
  | tup (es : Es) | lst (es : Es)
  | dct (ks : List Str) (es : Es)
  | bin (o : Bo) (a b : E)
  | neg (a : E)
  | cmp (o : Co) (a b : E)
  | chain (o1 o2 : Co) (a b c : E)
  | and (a b : E) | or (a b : E) | not (a : E)
  | ifx (c a b : E)
  | call (f : Str) (es : Es)
  | bi (f : Bi) (a : E)
  | mm (mx : Bool) (a b : E)
  | isi (a : E) (t : Ty)
  | ix (a i : E)
  | slc (a lo hi : E)
  | rev (a : E)
  | bm (m : Bm) (o : E) (es : Es)
  | mut (m : Mm) (i : Nat) (es : Es)
  | lc (elt : E) (tg : Tg) (it : It) (cond : E) (own : List (Str × Nat))
  | listRange (a : E)
  | none
  | mk (c : Str) (e : E)
  | fldv (e : E)
  | isx (e : E) (c : Str)
  | isv (e : E)
  | heard (h : Str) (e : E)
  | fstr (es : Es)
  | never
inductive Es where
  | nil | cons (e : E) (es : Es) | star (e : E) (es : Es)
inductive It where
  | seq (e : E) | range1 (e : E) | range2 (a b : E) | zip (a b : E) | enum (a : E)
end

mutual
inductive S where
  | set (i : Nat) (e : E)
  | par (i j : Nat) (a b : E)
  | unp (tg : Tg) (e : E)
  | setix (i : Nat) (ie e : E)
  | aug (o : Bo) (i : Nat) (e : E)
  | ret (e : E)
  | ife (c : E) (a b : Ss)
  | for (tg : Tg) (it : It) (body : Ss)
  | whl (c : E) (body : Ss)
  | expr (e : E)
  | raise (c : Str) (e : E)
  | pass
  | never
  | tryset (i : Nat) (e : E) (n m : Nat)
  | tryraise (c : Str) (e : E) (n m : Nat)
inductive Ss where
  | nil | cons (s : S) (ss : Ss)
end

/-! ### the operators on data -/
mutual
def D.py : D → Option PyData
  | .non => some .none
  | .bl b => some (.bool b)
  | .int i => some (.int i)
  | .str s => some (.str s)
  | .tup xs => (D.pyL xs).map .tuple
  | .lst xs => (D.pyL xs).map .list
  | .dct .. => none
  | .scr .. => none
  | .ins .. => none
  | .exc .. => none
def D.pyL : List D → Option (List PyData)
  | [] => some []
  | x :: xs => match D.py x, D.pyL xs with
    | some a, some b => some (a :: b)
    | _, _ => none
end

def line : Nat := 16777216
mutual
/-- .. with dicts, for repr -/
def D.pyR : D → Option PyData
  | .non => some .none
  | .bl b => some (.bool b)
  | .int i => some (.int i)
  | .str s => some (.str s)
  | .tup xs => (D.pyRL xs).map .tuple
  | .lst xs => (D.pyRL xs).map .list
  | .dct ks vs => (D.pyRL vs).map fun ps => .dict ((ks.map PyData.str).zip ps)
  | .scr .. => none
  | .ins .. => none
  | .exc .. => none
def D.pyRL : List D → Option (List PyData)
  | [] => some []
  | x :: xs => match D.pyR x, D.pyRL xs with
    | some a, some b => some (a :: b)
    | _, _ => none
end

mutual
theorem pyR_of : ∀ {d : D} {p : PyData}, d.py = some p → d.pyR = some p
  | .non, _, h => h
  | .bl _, _, h => h
  | .int _, _, h => h
  | .str _, _, h => h
  | .tup xs, p, h => by
    have h : (D.pyL xs).map PyData.tuple = some p := by simpa only [D.py] using h
    cases e : D.pyL xs with
    | none => rw [e] at h; cases h
    | some ps => rw [e] at h; simp only [D.pyR, pyRL_of e]; exact h
  | .lst xs, p, h => by
    have h : (D.pyL xs).map PyData.list = some p := by simpa only [D.py] using h
    cases e : D.pyL xs with
    | none => rw [e] at h; cases h
    | some ps => rw [e] at h; simp only [D.pyR, pyRL_of e]; exact h
  | .dct .., _, h => by simp [D.py] at h
  | .scr .., _, h => by simp [D.py] at h
  | .ins .., _, h => by simp [D.py] at h
  | .exc .., _, h => by simp [D.py] at h
theorem pyRL_of : ∀ {xs : List D} {ps : List PyData}, D.pyL xs = some ps → D.pyRL xs = some ps
  | [], _, h => by simpa only [D.pyL, D.pyRL] using h
  | x :: xs, ps, h => by
    unfold D.pyL at h
    split at h
    · rename_i a b h1 h2
      simp only [D.pyRL, pyR_of h1, pyRL_of h2]
      exact h
    · cases h
end
def binF : Bo → D → D → Option W
  | .add, .int i, .int j => some (.d (.int (i + j)))
  | .add, .str a, .str b => if a.length + b.length ≤ line then some (.d (.str (a ++ b))) else none
  | .add, .lst a, .lst b => if a.length + b.length ≤ line then some (.lst (a ++ b)) else none
  | .add, .tup a, .tup b => if a.length + b.length ≤ line then some (.d (.tup (a ++ b))) else none
  | .sub, .int i, .int j => some (.d (.int (i - j)))
  | .mul, .int i, .int j => if i.natAbs.log2 + j.natAbs.log2 < 1000000 then some (.d (.int (i * j))) else none
  | .fdv, .int i, .int j => if 0 < j ∧ j.natAbs.log2 < 9000 then some (.d (.int (i / j))) else none
  | .mod, .int i, .int j => if 0 < j then some (.d (.int (i % j))) else none
  | .pow, .int i, .int j => if 0 ≤ j ∧ (PySem.Builtin.Int.intBits i : Int) * j ≤ 2 ^ 27 then some (.d (.int (i ^ j.toNat))) else none
  | _, _, _ => none

/-- == -/
def eqF (a b : D) : Option Bool := match a, b with
  | .str x, .str y => some (decide (x = y))
  | .int i, .int j => some (decide (i = j))
  | a, b => match a.py, b.py with
    | some p, some q => if PySem.SeqAt.shaped p && PySem.SeqAt.shaped q then some (PyData.eqv p q) else none
    | _, _ => none

def isinF (a b : D) : Option Bool := match a, b with
  | .str x, .str y => some (!(PySem.Builtin.Str.occurrences y x 0 y.length 1).isEmpty)
  | .str x, .dct ks _ => some (ks.contains x)
  | a, .tup ys => match a.py, D.pyL ys with
    | some p, some qs => if PySem.SeqAt.shaped p && PySem.SeqAt.shaped (.tuple qs) then some (qs.any fun z => PyData.eqv z p) else none
    | _, _ => none
  | a, .lst ys => match a.py, D.pyL ys with
    | some p, some qs => if PySem.SeqAt.shaped p && PySem.SeqAt.shaped (.list qs) then some (qs.any fun z => PyData.eqv z p) else none
    | _, _ => none
  | _, _ => none

def D.isNon : D → Bool
  | .non => true
  | _ => false

def cmpF : Co → D → D → Option Bool
  | .eq, a, b => eqF a b
  | .ne, a, b => (eqF a b).map (!·)
  | .lt, .int i, .int j => some (decide (i < j))
  | .le, .int i, .int j => some (decide (i ≤ j))
  | .gt, .int i, .int j => some (decide (j < i))
  | .ge, .int i, .int j => some (decide (j ≤ i))
  | .isN, a, .non => some a.isNon
  | .notN, a, .non => some (!a.isNon)
  | .isin, a, b => isinF a b
  | .notin, a, b => (isinF a b).map (!·)
  | _, _, _ => none

def D.isTy : Ty → D → Option Bool
  | .str, .str _ => some true
  | .int, .int _ => some true
  | .int, .bl _ => some true
  | .bool, .bl _ => some true
  | .tuple, .tup _ => some true
  | .list, .lst _ => some true
  | .dict, .dct .. => some true
  | _, .ins .. => none
  | _, .exc .. => none
  | _, .scr .. => none
  | _, _ => some false

/-- isinstance(x, an error of the package) -/
def isxF (es : List Str) (k : Str) : D → Option Bool
  | .exc c _ => if es.contains c = true then some (decide (c = k) || decide (k = "TypeUnknown")) else none
  | .ins .. => none
  | .scr .. => none
  | _ => some false
/-- isinstance(x, ValueError) -/
def isvF (es : List Str) : D → Option Bool
  | .exc c _ => if es.contains c = true then some true else none
  | .ins .. => none
  | .scr .. => none
  | _ => some false
def valF (es : List Str) : D → Option D
  | .exc c x => if es.contains c = true then some x else none
  | _ => none

def allBl : List D → Option (List Bool)
  | [] => some []
  | .bl b :: r => (allBl r).map (b :: ·)
  | _ :: _ => none

/-- the text that repr gives -/
def reprF (d : D) : Option D := match d.pyR with
  | some p => if p.showable && decide (p.shown.length ≤ line) && decide (p.depth ≤ 150) then some (.str p.shown) else none
  | none => none

def biF : Bi → D → Option W
  | .len, .tup xs => some (.d (.int xs.length))
  | .len, .lst xs => some (.d (.int xs.length))
  | .len, .str s => if s.length ≤ line then some (.d (.int s.length)) else none
  | .len, .scr ns => some (.d (.int ns.length))
  | .tuple, .tup xs => some (.d (.tup xs))
  | .tuple, .lst xs => some (.d (.tup xs))
  | .list, .tup xs => some (.lst xs)
  | .list, .lst xs => some (.lst xs)
  | .all, .lst xs => (allBl xs).map fun bs => .d (.bl (bs.all id))
  | .any, .lst xs => (allBl xs).map fun bs => .d (.bl (bs.any id))
  | .repr, d => (reprF d).map .d
  | .abs, .int i => some (.d (.int (if i < 0 then -i else i)))
  | .int, .int i => some (.d (.int i))
  | .int, .bl b => some (.d (.int (if b then 1 else 0)))
  | _, _ => none

def cutD (xs : List D) (lo hi : Option Int) : List D := (xs.drop (HT.sIx xs.length 0 lo)).take (HT.sIx xs.length xs.length hi - HT.sIx xs.length 0 lo)

def ixF : D → D → Option D
  | .tup xs, .int i => L2.atI xs i
  | .lst xs, .int i => L2.atI xs i
  | .scr ns, .int i => (L2.atI ns i).map .int
  | .str z, .int i => if z.length ≤ line then (L2.atI z.cps.toList i).map fun c => .str ⟨#[c]⟩ else none
  | .dct ks vs, .str k => (ks.zip vs).lookup k
  | _, _ => none

def slcF : D → Option Int → Option Int → Option W
  | .tup xs, lo, hi => some (.d (.tup (cutD xs lo hi)))
  | .lst xs, lo, hi => some (.lst (cutD xs lo hi))
  | .str z, lo, hi => if z.length ≤ line then some (.d (.str (L2.cutS z lo hi))) else none
  | _, _, _ => none

/-- a text backwards -/
def revS (z : Str) : Str := ⟨z.cps.toList.reverse.toArray⟩
def revF : D → Option D
  | .tup xs => some (.tup xs.reverse)
  | .str z => if z.length ≤ line then some (.str (revS z)) else none
  | _ => none

def partF : D → Option (Option Int)
  | .int i => some (some i)
  | _ => none

/-- the items of what is walked -/
def itemsF : D → Option (List D)
  | .tup xs => some xs
  | .lst xs => some xs
  | .str z => some (z.cps.toList.map fun c => .str ⟨#[c]⟩)
  | _ => none

def zipF : D → D → Option (List D)
  | .lst xs, .lst ys => some ((xs.zip ys).map fun p => .tup [p.1, p.2])
  | .tup xs, .tup ys => some ((xs.zip ys).map fun p => .tup [p.1, p.2])
  | _, _ => none
def enumL (xs : List D) : List D := xs.zipIdx.map fun p => .tup [.int (p.2 : Nat), p.1]
def signsD (z : Str) : List D := z.cps.toList.map fun c => .str ⟨#[c]⟩
def enumF : D → Option (List D)
  | .lst xs => some (enumL xs)
  | .tup xs => some (enumL xs)
  | .str z => some (enumL (signsD z))
  | _ => none

def rangeF (lo hi : Int) : Option (List D) :=
  if -(2 ^ 62) ≤ lo ∧ lo < 2 ^ 62 ∧ -(2 ^ 62) ≤ hi ∧ hi < 2 ^ 62 then some ((List.range (hi - lo).toNat).map fun i => .int (lo + (i : Nat))) else none

def bmF : Bm → D → List D → Option W
  | .get1, .dct ks vs, [.str k] => some (.d (((ks.zip vs).lookup k).getD .non))
  | .get2, .dct ks vs, [.str k, x] => some (.d (((ks.zip vs).lookup k).getD x))
  | _, _, _ => none

/-- what a method that changes gives, and what the object is then -/
def mutF : Mm → W → List D → Option (D × W)
  | .append, .lst xs, [y] => if xs.length < line then some (.non, .lst (xs ++ [y])) else none
  | .extend, .lst xs, [.lst ys] => if xs.length + ys.length ≤ line then some (.non, .lst (xs ++ ys)) else none
  | .popAt, .lst xs, [.int i] => if xs.length ≤ line then (match L2.ixN xs.length i with
    | some j => (xs[j]?).map fun y => (y, .lst (xs.eraseIdx j))
    | none => none) else none
  | _, _, _ => none

/-- a[i] = v -/
def setF : W → D → D → Option W
  | .lst xs, .int i, v => (L2.ixN xs.length i).map fun j => .lst (xs.set j v)
  | .dct ks vs, .str k, v => if ks.length < line then (if ks.contains k then some (.dct ks ((ks.zip vs).map fun p => if p.1 = k then v else p.2)) else some (.dct (ks ++ [k]) (vs ++ [v]))) else none
  | _, _, _ => none

/-! ### the state -/
def slot (env : Env) (i : Nat) : Option W := env.getD i none

/-- what an operand is when it is used -/
def use (env : Env) : Ar → Option D
  | .vr i => (slot env i).map W.frz
  | .val w => some w.frz

/-- an operand as data for good -/
def item : Ar → Env → Res D
  | .vr i, env => match slot env i with
    | some (.d x) => .ok x env
    | some w => .ok w.frz (env.set i (some (.d w.frz)))
    | none => .bad
  | .val w, env => .ok w.frz env

/-- an operand handed on, with what it may still be -/
def take : Ar → Env → Res W
  | .vr i, env => match slot env i with
    | some (.d x) => .ok (.d x) env
    | some w => .ok w (env.set i none)
    | none => .bad
  | .val w, env => .ok w env

/-- a slot is stored -/
def store (keep : List Nat) (i : Nat) (w : W) (env : Env) : Option Env := if keep.contains i ∨ env.length ≤ i then none else some (env.set i (some w))

def assignTg (keep : List Nat) : Tg → D → Env → Option Env
  | .one i, x, env => store keep i (.d x) env
  | .two i j, .tup [x, y], env => (store keep i (.d x) env).bind (store keep j (.d y))
  | .two i j, .str z, env => match z.cps.toList with
    | [c, d] => if c < 128 ∧ d < 128 then (store keep i (.d (.str ⟨#[c]⟩)) env).bind (store keep j (.d (.str ⟨#[d]⟩))) else none
    | _ => none
  | .three i j k, .tup [x, y, z], env => (store keep i (.d x) env).bind fun env => (store keep j (.d y) env).bind (store keep k (.d z))
  | _, _, _ => none

def wipeE (env : Env) : List (Str × Nat) → Env
  | [] => env
  | p :: r => (wipeE env r).set p.2 none

/-! ### calls -/
structure Fn where
  n : Nat
  m : Nat
  keep : List Nat
  body : Ss

inductive CRes where
  | ok (w : W) (outs : Env) | exc (x : D) (outs : Env) | bad

structure Prog where
  fns : List (Str × Fn)
  consts : List (Str × D)
  excs : List Str
  hears : List Str

/-- what a hearing def gives for what it called -/
def hearF (es : List Str) : Res D → Res Ar
  | .ok d env => .ok (.val (.d (.tup [.non, d]))) env
  | .exc (.exc c y) env => if es.contains c = true then .ok (.val (.d (.tup [.exc c y, .non]))) env else .bad
  | _ => .bad

/-- the arguments as they are bound; which slot came to which parameter -/
def bindA (keep : List Nat) : List Ar → Nat → Env → Option (List W × Env × List (Nat × Nat))
  | [], _, env => some ([], env, [])
  | .val w :: r, j, env => (bindA keep r (j + 1) env).map fun (ws, e, l) => (w :: ws, e, l)
  | .vr i :: r, j, env => match slot env i with
    | some (.d x) => (bindA keep r (j + 1) env).map fun (ws, e, l) => (.d x :: ws, e, l)
    | some w => if keep.contains j then (bindA keep r (j + 1) (env.set i none)).map fun (ws, e, l) => (w :: ws, e, (i, j) :: l) else none
    | none => none

/-- what comes back to the slots -/
def backA (outs : Env) (env : Env) : List (Nat × Nat) → Env
  | [] => env
  | (i, j) :: r => (backA outs env r).set i (outs.getD j none)

section
variable (P : Prog) (cf : Str → List W → CRes) (keep : List Nat)

def callA (f : Str) (fn : Fn) (ars : List Ar) (env : Env) : Res Ar := match bindA fn.keep ars 0 env with
  | none => .bad
  | some (ws, env1, l) => match cf f ws with
    | .ok w outs => .ok (.val w) (backA outs env1 l)
    | .exc x outs => .exc x (backA outs env1 l)
    | .bad => .bad

/-- a comprehension's turns -/
def lcL (tg : Tg) (own : List (Str × Nat)) (ct : Env → Res Bool) (ce : Env → Res D) : List D → List D → Env → Res (List D)
  | [], acc, env => .ok acc env
  | x :: xs, acc, env => match assignTg keep tg x (wipeE env own) with
    | none => .bad
    | some env1 => (ct env1).noX.bind fun b env2 => if b = true then (ce env2).noX.bind fun y env3 => if acc.length < line then lcL tg own ct ce xs (acc ++ [y]) (wipeE env3 own) else .bad
      else lcL tg own ct ce xs acc (wipeE env2 own)

def useB (r : Res Ar) : Res Bool := r.bind fun a env => match use env a with
  | some (.bl b) => .ok b env
  | _ => .bad

/-- a part of a slice -/
def partB (a : Ar) (env : Env) : Res (Option Int) := match use env a with
  | some (.int i) => .ok (some i) env
  | _ => .bad
def E.isNone : E → Bool
  | .none => true
  | _ => false
def useAll (env : Env) : List Ar → Option (List D)
  | [] => some []
  | a :: r => match use env a, useAll env r with
    | some x, some xs => some (x :: xs)
    | _, _ => none

mutual
def evE : E → Env → Res Ar
  | .var i, env => match slot env i with
    | some _ => .ok (.vr i) env
    | none => .bad
  | .k c, env => .ok (.val (.d c.d)) env
  | .glob x, env => Res.of ((P.consts.lookup x).map fun d => .val (.d d)) env
  | .tup es, env => (evIts es env).bind fun ds env => if ds.length ≤ line then .ok (.val (.d (.tup ds))) env else .bad
  | .lst es, env => (evIts es env).bind fun ds env => if ds.length ≤ line then .ok (.val (.lst ds)) env else .bad
  | .dct ks es, env => (evIts es env).bind fun ds env => .ok (.val (.dct ks ds)) env
  | .bin o a b, env => (evE a env).bind fun x env => (evE b env).bind fun y env => match use env x, use env y with
    | some dx, some dy => Res.of ((binF o dx dy).map .val) env
    | _, _ => .bad
  | .neg a, env => (evE a env).bind fun x env => match use env x with
    | some (.int i) => .ok (.val (.d (.int (-i)))) env
    | _ => .bad
  | .cmp o a b, env => (evE a env).bind fun x env => (evE b env).bind fun y env => match use env x, use env y with
    | some dx, some dy => Res.of ((cmpF o dx dy).map fun b => .val (.d (.bl b))) env
    | _, _ => .bad
  | .chain o1 o2 a b c, env => (evE a env).bind fun x env => (evE b env).bind fun y env => match use env x, use env y with
    | some dx, some dy => match cmpF o1 dx dy with
      | some true => (evE c env).bind fun z env => match use env y, use env z with
        | some dy, some dz => Res.of ((cmpF o2 dy dz).map fun b => .val (.d (.bl b))) env
        | _, _ => .bad
      | some false => .ok (.val (.d (.bl false))) env
      | none => .bad
    | _, _ => .bad
  | .and a b, env => (useB (evE a env)).bind fun k env => if k = true then evE b env else .ok (.val (.d (.bl false))) env
  | .or a b, env => (useB (evE a env)).bind fun k env => if k = true then .ok (.val (.d (.bl true))) env else evE b env
  | .not a, env => (useB (evE a env)).bind fun k env => .ok (.val (.d (.bl (!k)))) env
  | .ifx c a b, env => (useB (evE c env)).bind fun k env => if k = true then evE a env else evE b env
  | .call f es, env => match P.fns.lookup f with
    | none => .bad
    | some fn => (evAs es env).bind fun ars env => callA cf f fn ars env
  | .bi f a, env => (evE a env).bind fun x env => match use env x with
    | some dx => Res.of ((biF f dx).map .val) env
    | none => .bad
  | .mm mx a b, env => (evE a env).bind fun x env => (evE b env).bind fun y env => match use env x, use env y with
    | some (.int i), some (.int j) => .ok (.val (.d (.int (if mx = true then (if j > i then j else i) else (if j < i then j else i))))) env
    | _, _ => .bad
  | .isi a t, env => (evE a env).bind fun x env => match use env x with
    | some dx => Res.of ((dx.isTy t).map fun b => .val (.d (.bl b))) env
    | none => .bad
  | .ix a i, env => (evE a env).bind fun x env => (evE i env).bind fun y env => match use env x, use env y with
    | some dx, some dy => Res.of ((ixF dx dy).map fun d => .val (.d d)) env
    | _, _ => .bad
  | .slc a lo hi, env => (evE a env).bind fun x env => (if lo.isNone = true then .ok none env else (evE lo env).bind partB).bind fun l env => (if hi.isNone = true then .ok none env else (evE hi env).bind partB).bind fun h env => match use env x with
    | some dx => Res.of ((slcF dx l h).map .val) env
    | none => .bad
  | .rev a, env => (evE a env).bind fun x env => match use env x with
    | some dx => Res.of ((revF dx).map fun d => .val (.d d)) env
    | none => .bad
  | .bm m o es, env => (evE o env).bind fun x env => (evAs es env).bind fun ars env => match use env x, useAll env ars with
    | some dx, some ds => Res.of ((bmF m dx ds).map .val) env
    | _, _ => .bad
  | .mut m i es, env => match slot env i with
    | some (.lst _) => (evIts es env).bind fun ds env => match slot env i with
      | some w => match mutF m w ds with
        | some (y, w') => .ok (.val (.d y)) (env.set i (some w'))
        | none => .bad
      | none => .bad
    | _ => .bad
  | .lc elt tg it cond own, env => (evIt it env).bind fun xs env => (lcL keep tg own (fun env => if cond.isNone = true then .ok true env else useB (evE cond env)) (fun env => (evE elt env).bind item) xs [] env).bind fun ys env => .ok (.val (.lst ys)) (wipeE env own)
  | .listRange a, env => (evE a env).bind fun x env => match use env x with
    | some (.int i) => if i ≤ line then Res.of ((rangeF 0 i).map fun xs => .val (.lst xs)) env else .bad
    | _ => .bad
  | .none, _ => .bad
  | .mk c e, env => if P.excs.contains c = true then (evE e env).bind fun a env => (item a env).bind fun d env => .ok (.val (.d (.exc c d))) env else .bad
  | .fldv e, env => (evE e env).bind fun x env => match use env x with
    | some dx => Res.of ((valF P.excs dx).map fun d => .val (.d d)) env
    | none => .bad
  | .isx e c, env => if P.excs.contains c = true then (evE e env).bind fun x env => match use env x with
    | some dx => Res.of ((isxF P.excs c dx).map fun b => .val (.d (.bl b))) env
    | none => .bad
    else .bad
  | .fstr es, env => (evJs es Str.empty env).bind fun z env => .ok (.val (.d (.str z))) env
  | .never, _ => .bad
  | .heard h e, env => if P.hears.contains h = true ∧ P.excs.contains "TypeUnknown" = true then hearF P.excs ((evE e env).bind item) else .bad
  | .isv e, env => (evE e env).bind fun x env => match use env x with
    | some dx => Res.of ((isvF P.excs dx).map fun b => .val (.d (.bl b))) env
    | none => .bad
/-- the parts of an f-string: texts, one behind the other -/
def evJs : Es → Str → Env → Res Str
  | .nil, acc, env => .ok acc env
  | .cons e es, acc, env => (evE e env).bind fun a env => match use env a with
    | some (.str y) => if (acc ++ y).length ≤ line then evJs es (acc ++ y) env else .bad
    | _ => .bad
  | .star _ _, _, _ => .bad
/-- items of a display, an argument list of a method -/
def evIts : Es → Env → Res (List D)
  | .nil, env => .ok [] env
  | .cons e es, env => (evE e env).bind fun a env => (item a env).bind fun d env => (evIts es env).bind fun ds env => .ok (d :: ds) env
  | .star e es, env => (evE e env).bind fun a env => (item a env).bind fun d env => match d with
    | .lst xs => (evIts es env).bind fun ds env => .ok (xs ++ ds) env
    | .tup xs => (evIts es env).bind fun ds env => .ok (xs ++ ds) env
    | _ => .bad
/-- arguments -/
def evAs : Es → Env → Res (List Ar)
  | .nil, env => .ok [] env
  | .cons e es, env => (evE e env).bind fun a env => (evAs es env).bind fun as env => .ok (a :: as) env
  | .star _ _, _ => .bad
/-- what is walked -/
def evIt : It → Env → Res (List D)
  | .seq e, env => (evE e env).bind fun a env => (item a env).bind fun d env => Res.of (itemsF d) env
  | .range1 e, env => (evE e env).bind fun a env => match use env a with
    | some (.int i) => Res.of (rangeF 0 i) env
    | _ => .bad
  | .range2 a b, env => (evE a env).bind fun x env => (evE b env).bind fun y env => match use env x, use env y with
    | some (.int i), some (.int j) => Res.of (rangeF i j) env
    | _, _ => .bad
  | .zip a b, env => (evE a env).bind fun x env => (item x env).bind fun dx env => (evE b env).bind fun y env => (item y env).bind fun dy env => Res.of (zipF dx dy) env
  | .enum a, env => (evE a env).bind fun x env => (item x env).bind fun dx env => Res.of (enumF dx) env
end

/-- how a statement ends -/
inductive Fl where
  | nx (env : Env) | rt (w : W) (env : Env) | bk (env : Env) | ct (env : Env) | ex (x : D) (env : Env) | bad

def Fl.then (f : Fl) (g : Env → Fl) : Fl := match f with
  | .nx env => g env
  | f => f
def Res.fl {α : Type} (r : Res α) (f : α → Env → Fl) : Fl := match r with
  | .ok a env => f a env
  | .exc x env => .ex x env
  | .bad => .bad
def nxO : Option Env → Fl
  | some env => .nx env
  | none => .bad

/-- except TypeUnknown as n: m = n -/
def catchF (n m : Nat) : Fl → Fl
  | .nx env => .nx env
  | .ex (.exc c x) env => if P.excs.contains c = true ∧ n ≠ m ∧ keep.contains n = false ∧ n < env.length then nxO ((store keep m (.d (.exc c x)) env).map fun env => env.set n none) else .bad
  | _ => .bad

def forL (tg : Tg) (body : Env → Fl) : List D → Env → Fl
  | [], env => .nx env
  | x :: xs, env => match assignTg keep tg x env with
    | none => .bad
    | some env1 => match body env1 with
      | .nx env2 => forL tg body xs env2
      | .ct env2 => forL tg body xs env2
      | .bk env2 => .nx env2
      | f => f

def whlL (c : Env → Res Bool) (body : Env → Fl) : Nat → Env → Fl
  | 0, _ => .bad
  | n + 1, env => (c env).fl fun b env1 => if b = true then match body env1 with
      | .nx env2 => whlL c body n env2
      | .ct env2 => whlL c body n env2
      | .bk env2 => .nx env2
      | f => f
    else .nx env1

def loopMost : Nat := 100000

mutual
def evS : S → Env → Fl
  | .set i e, env => (evE P cf keep e env).fl fun a env => (match a with
      | .vr j => (item (.vr j) env).fl fun d env => nxO (store keep i (.d d) env)
      | .val w => nxO (store keep i w env))
  | .par i j a b, env => (evE P cf keep a env).fl fun x env => (evE P cf keep b env).fl fun y env => match x, y with
      | .val w, .val u => nxO ((store keep i w env).bind (store keep j u))
      | x, y => (item x env).fl fun dx env => (item y env).fl fun dy env => nxO ((store keep i (.d dx) env).bind (store keep j (.d dy)))
  | .unp tg e, env => (evE P cf keep e env).fl fun a env => (item a env).fl fun d env => nxO (assignTg keep tg d env)
  | .setix i ie e, env => (evE P cf keep e env).fl fun a env => (item a env).fl fun v env => match slot env i with
    | none => .bad
    | some _ => (evE P cf keep ie env).fl fun b env => match use env b, slot env i with
      | some k, some w => match setF w k v with
        | some w' => .nx (env.set i (some w'))
        | none => .bad
      | _, _ => .bad
  | .aug o i e, env => (evE P cf keep e env).fl fun a env => match slot env i, use env a with
      | some (.d x), some y => match x, binF o x y with
        | .int _, some w => nxO (store keep i w env)
        | .str _, some w => nxO (store keep i w env)
        | _, _ => .bad
      | _, _ => .bad
  | .ret e, env => (evE P cf keep e env).fl fun a env => (take a env).fl fun w env => .rt w env
  | .ife c a b, env => (useB (evE P cf keep c env)).fl fun k env => if k = true then evSs a env else evSs b env
  | .for tg it body, env => (evIt P cf keep it env).fl fun xs env => forL keep tg (fun env => evSs body env) xs env
  | .whl c body, env => whlL (fun env => useB (evE P cf keep c env)) (fun env => evSs body env) loopMost env
  | .expr e, env => (evE P cf keep e env).fl fun _ env => .nx env
  | .raise c e, env => if P.excs.contains c = true then (evE P cf keep e env).fl fun a env => (item a env).fl fun d env => .ex (.exc c d) env else .bad
  | .tryset i e n m, env => if P.excs.contains "TypeUnknown" = true then catchF P keep n m ((evE P cf keep e env).fl fun a env => (match a with
      | .vr j => (item (.vr j) env).fl fun d env => nxO (store keep i (.d d) env)
      | .val w => nxO (store keep i w env))) else .bad
  | .tryraise c e n m, env => if P.excs.contains c = true then catchF P keep n m ((evE P cf keep e env).fl fun a env => (item a env).fl fun d env => .ex (.exc c d) env) else .bad
  | .pass, env => .nx env
  | .never, _ => .bad
def evSs : Ss → Env → Fl
  | .nil, env => .nx env
  | .cons s ss, env => (evS s env).then fun env => evSs ss env
end
end

def finC : Fl → CRes
  | .nx env => .ok (.d .non) env
  | .rt w env => .ok w env
  | .ex x env => .exc x env
  | _ => .bad

/-- a def, called with room for n calls one in another -/
def callF (P : Prog) : Nat → Str → List W → CRes
  | 0, _, _ => .bad
  | n + 1, f, ws => match P.fns.lookup f with
    | none => .bad
    | some fn => if ws.length = fn.n then finC (evSs P (callF P n) fn.keep fn.body (ws.map some ++ List.replicate (fn.m - fn.n) none)) else .bad
end PyEv

set_option maxRecDepth 100000
set_option maxHeartbeats 2000000
/-! PyB1: what stands in the heap for data. -/
namespace PyEv
open PySem L2

/-- the tables of code objects, each with the name of what it holds -/
class TabL where
  cs : List (Addr × Addr × Str)
def TabL.T [t : TabL] : List (Addr × Str) := t.cs.map fun p => (p.2.1, p.2.2 ++ ".<locals>." ++ "<lambda>")
variable [TabL]
/-- no table of code objects -/
def NoT (o : HO) : Prop := ∀ ps, o ≠ .tbl ps
/-- new, or a table -/
def Fr (H : Hp) (b : Addr) : Prop := ∀ o, H b = some o → ∃ ps, o = .tbl ps
theorem Fr.non {H : Hp} {b : Addr} (h : H b = none) : Fr H b := fun o e => by rw [h] at e; cases e
theorem Fr.no {H : Hp} {b : Addr} {o : HO} (f : Fr H b) (h : H b = some o) (n : NoT o) : False := by
  obtain ⟨ps, e⟩ := f o h
  exact n ps e
theorem Fr.or (H : Hp) (b : Addr) : Fr H b ∨ ∃ o, H b = some o ∧ NoT o := by
  by_cases h : ∃ o, H b = some o ∧ NoT o
  · exact .inr h
  · refine .inl fun o e => ?_
    by_cases z : ∃ ps, o = .tbl ps
    · exact z
    · exact absurd ⟨o, e, fun ps q => z ⟨ps, q⟩⟩ h

/-- the entries of a written dict -/
inductive KL (P : Params) : List DictEntry → List Str → List V → Prop
  | nil : KL P [] [] []
  | cons {e : DictEntry} {r : List DictEntry} {k : Str} {ks : List Str} {v : V} {vs : List V} {t : Tok} : e.key = .str k t → e.hash = PyData.keyHash P k → RelV v e.val → KL P r ks vs → KL P (e :: r) (k :: ks) (v :: vs)
/-- a dict of the module: its texts and what they lead to -/
structure KD (K : PySem.W.Frag) (w : World) (a : Addr) (ks : List Str) (us : List V) : Prop where
  ex : ∃ es n, KDict K w a es n ∧ KL w.params es.toList ks us
  yes : ∀ x v, (ks.zip us).lookup x = some v → ∃ u, PySem.W.nsIn K a x = some (some u) ∧ RelV v u
  no : ∀ x, (ks.zip us).lookup x = none → PySem.W.nsIn K a x = some none
  len : ks.length = us.length

mutual
inductive Den (K : PySem.W.Frag) (w : World) (Hf : Hp) : D → V → Prop
  | non : Den K w Hf .non .non
  | bl (b : Bool) : Den K w Hf (.bl b) (.bl b)
  | int (i : Int) : Den K w Hf (.int i) (.int i)
  | str (s : Str) : Den K w Hf (.str s) (.str s)
  | tup {a : Addr} {ds : List D} {vs : List V} : SqT K Hf a vs → DenL K w Hf ds vs → Den K w Hf (.tup ds) (.ref a)
  | lst {a : Addr} {ds : List D} {vs : List V} : Hf a = some (.lst vs) → DenL K w Hf ds vs → Den K w Hf (.lst ds) (.ref a)
  | dct {a : Addr} {ks : List Str} {ds : List D} {kvs : List (Key × V)} : Hf a = some (.dK kvs) → kvs.map (·.1) = ks.map Sum.inr → DenL K w Hf ds (kvs.map (·.2)) → Den K w Hf (.dct ks ds) (.ref a)
  | kdct {a : Addr} {ks : List Str} {ds : List D} {us : List V} : KD K w a ks us → DenL K w Hf ds us → Den K w Hf (.dct ks ds) (.ref a)
  | scr {a : Addr} {ns : List Int} : SqL K Hf a (ns.map V.int) → Den K w Hf (.scr ns) (.ref a)
  | exc {a C d : Addr} {c : Str} {x : D} {v : V} : PySem.W.nsIn K mainGlobals c = some (some (.ref C)) → Hf a = some (ExV C d a) → Hf d = some (.xd [("value", v)]) → Den K w Hf x v → Den K w Hf (.exc c x) (.ref a)
inductive DenL (K : PySem.W.Frag) (w : World) (Hf : Hp) : List D → List V → Prop
  | nil : DenL K w Hf [] []
  | cons {d : D} {ds : List D} {v : V} {vs : List V} : Den K w Hf d v → DenL K w Hf ds vs → DenL K w Hf (d :: ds) (v :: vs)
end

section
variable {K : PySem.W.Frag} {w : World} {Hf Hg H H' : Hp}

theorem SqT.same {a : Addr} {xs : List V} (h : Same Hf Hg) (s : SqT K Hf a xs) : SqT K Hg a xs := by
  rcases s with (s | ⟨o, s⟩) | s
  · exact .inl (.inl (h _ _ s))
  · exact .inl (.inr ⟨o, h _ _ s⟩)
  · exact .inr s

mutual
theorem Den.mono (h : Same Hf Hg) : ∀ {d : D} {v : V}, Den K w Hf d v → Den K w Hg d v
  | _, _, .non => .non
  | _, _, .bl b => .bl b
  | _, _, .int i => .int i
  | _, _, .str s => .str s
  | _, _, .tup s l => .tup (SqT.same h s) (DenL.mono h l)
  | _, _, .lst s l => .lst (h _ _ s) (DenL.mono h l)
  | _, _, .dct s e l => .dct (h _ _ s) e (DenL.mono h l)
  | _, _, .kdct k l => .kdct k (DenL.mono h l)
  | _, _, .scr s => .scr (h.seq s)
  | _, _, .exc n e d r => .exc n (h _ _ e) (h _ _ d) (Den.mono h r)
theorem DenL.mono (h : Same Hf Hg) : ∀ {ds : List D} {vs : List V}, DenL K w Hf ds vs → DenL K w Hg ds vs
  | _, _, .nil => .nil
  | _, _, .cons a b => .cons (Den.mono h a) (DenL.mono h b)
end
theorem DenL.length : ∀ {ds : List D} {vs : List V}, DenL K w Hf ds vs → ds.length = vs.length
  | _, _, .nil => rfl
  | _, _, .cons _ b => by rw [List.length_cons, List.length_cons, DenL.length b]
theorem DenL.append : ∀ {ds es : List D} {vs us : List V}, DenL K w Hf ds vs → DenL K w Hf es us → DenL K w Hf (ds ++ es) (vs ++ us)
  | _, _, _, _, .nil, h => h
  | _, _, _, _, .cons a b, h => .cons a (DenL.append b h)
theorem DenL.get : ∀ {ds : List D} {vs : List V} {i : Nat} {d : D}, DenL K w Hf ds vs → ds[i]? = some d → ∃ v, vs[i]? = some v ∧ Den K w Hf d v
  | _, _, _, _, .nil, e => by simp at e
  | _, _, 0, _, .cons a _, e => by simp at e; subst e; exact ⟨_, rfl, a⟩
  | _, _, i + 1, d, .cons _ b, e => by
    obtain ⟨v, h1, h2⟩ := DenL.get (i := i) (d := d) b (by simpa using e)
    exact ⟨v, by simpa using h1, h2⟩
theorem DenL.take : ∀ {ds : List D} {vs : List V} (n : Nat), DenL K w Hf ds vs → DenL K w Hf (ds.take n) (vs.take n)
  | _, _, 0, _ => .nil
  | _, _, _ + 1, .nil => .nil
  | _, _, n + 1, .cons a b => .cons a (DenL.take n b)
theorem DenL.drop : ∀ {ds : List D} {vs : List V} (n : Nat), DenL K w Hf ds vs → DenL K w Hf (ds.drop n) (vs.drop n)
  | _, _, 0, h => h
  | _, _, _ + 1, .nil => .nil
  | _, _, n + 1, .cons a b => DenL.drop n b
theorem DenL.reverse : ∀ {ds : List D} {vs : List V}, DenL K w Hf ds vs → DenL K w Hf ds.reverse vs.reverse
  | _, _, .nil => .nil
  | _, _, .cons a b => by
    rw [List.reverse_cons, List.reverse_cons]
    exact (DenL.reverse b).append (.cons a .nil)
theorem DenL.set : ∀ {ds : List D} {vs : List V} {d : D} {v : V} (i : Nat), DenL K w Hf ds vs → Den K w Hf d v → DenL K w Hf (ds.set i d) (vs.set i v)
  | _, _, _, _, _, .nil, _ => .nil
  | _, _, _, _, 0, .cons _ b, h => .cons h b
  | _, _, _, _, i + 1, .cons a b, h => .cons a (DenL.set i b h)
theorem DenL.eraseIdx : ∀ {ds : List D} {vs : List V} (i : Nat), DenL K w Hf ds vs → DenL K w Hf (ds.eraseIdx i) (vs.eraseIdx i)
  | _, _, _, .nil => .nil
  | _, _, 0, .cons _ b => b
  | _, _, i + 1, .cons a b => .cons a (DenL.eraseIdx i b)

/-- a slot's content at a value -/
inductive RepW (K : PySem.W.Frag) (w : World) (Hf H : Hp) : W → V → Prop
  | d {x : D} {v : V} : Den K w Hf x v → RepW K w Hf H (.d x) v
  | lst {a : Addr} {ds : List D} {vs : List V} : H a = some (.lst vs) → Hf a = none → DenL K w Hf ds vs → RepW K w Hf H (.lst ds) (.ref a)
  | dct {a : Addr} {ks : List Str} {ds : List D} {kvs : List (Key × V)} : H a = some (.dK kvs) → Hf a = none → kvs.map (·.1) = ks.map Sum.inr → DenL K w Hf ds (kvs.map (·.2)) → RepW K w Hf H (.dct ks ds) (.ref a)

/-- the address that is owned -/
def ad : W → V → List Addr
  | .d _, _ => []
  | .lst _, .ref a => [a]
  | .dct _ _, .ref a => [a]
  | _, _ => []
abbrev WV := W × V
def adp (p : WV) : List Addr := ad p.1 p.2
def Owned (L : List WV) (a : Addr) : Prop := ∃ p ∈ L, a ∈ adp p
def Dj (p q : WV) : Prop := ∀ a, a ∈ adp p → a ∉ adp q
theorem Dj.symm {p q : WV} (h : Dj p q) : Dj q p := fun a h1 h2 => h a h2 h1
structure Fam (K : PySem.W.Frag) (w : World) (Hf H : Hp) (L : List WV) : Prop where
  rep : ∀ p ∈ L, RepW K w Hf H p.1 p.2
  dj : L.Pairwise Dj
  tabs : LamX.Tabs TabL.T H
  nt : ∀ b o, Hf b = some o → NoT o
theorem Fam.nil (t : LamX.Tabs TabL.T H) (n : ∀ b o, Hf b = some o → NoT o) : Fam K w Hf H [] := ⟨(fun _ h => by cases h), List.Pairwise.nil, t, n⟩
theorem Fam.perm {L M : List WV} (f : Fam K w Hf H L) (p : L.Perm M) : Fam K w Hf H M :=
  ⟨fun q hq => f.rep q (p.mem_iff.mpr hq), (p.pairwise_iff (fun h => Dj.symm h)).mp f.dj, f.tabs, f.nt⟩
theorem Fam.sub {L M : List WV} (f : Fam K w Hf H L) (s : M.Sublist L) : Fam K w Hf H M :=
  ⟨fun q hq => f.rep q (s.mem hq), f.dj.sublist s, f.tabs, f.nt⟩
theorem Fam.cons_d {L : List WV} {x : D} {v : V} (f : Fam K w Hf H L) (h : Den K w Hf x v) : Fam K w Hf H ((.d x, v) :: L) := by
  refine ⟨fun q hq => ?_, List.pairwise_cons.mpr ⟨fun q _ a ha => ?_, f.dj⟩, f.tabs, f.nt⟩
  · rcases List.mem_cons.mp hq with rfl | hq
    · exact .d h
    · exact f.rep q hq
  · simp [adp, ad] at ha
theorem Owned.perm {L M : List WV} (p : L.Perm M) {a : Addr} : Owned L a ↔ Owned M a :=
  ⟨fun ⟨q, h, e⟩ => ⟨q, p.mem_iff.mp h, e⟩, fun ⟨q, h, e⟩ => ⟨q, p.mem_iff.mpr h, e⟩⟩
theorem Owned.append {L M : List WV} {a : Addr} : Owned (L ++ M) a ↔ Owned L a ∨ Owned M a :=
  ⟨fun ⟨q, h, e⟩ => (List.mem_append.mp h).elim (fun h => .inl ⟨q, h, e⟩) fun h => .inr ⟨q, h, e⟩,
   fun h => h.elim (fun ⟨q, h, e⟩ => ⟨q, List.mem_append_left _ h, e⟩) fun ⟨q, h, e⟩ => ⟨q, List.mem_append_right _ h, e⟩⟩
theorem Owned.cons {p : WV} {M : List WV} {a : Addr} : Owned (p :: M) a ↔ a ∈ adp p ∨ Owned M a :=
  ⟨fun ⟨q, h, e⟩ => (List.mem_cons.mp h).elim (fun h => .inl (h ▸ e)) fun h => .inr ⟨q, h, e⟩,
   fun h => h.elim (fun e => ⟨p, List.mem_cons_self, e⟩) fun ⟨q, h, e⟩ => ⟨q, List.mem_cons_of_mem _ h, e⟩⟩
theorem Owned.nil {a : Addr} : ¬ Owned [] a := fun ⟨_, h, _⟩ => by cases h

/-- an owned address: tracked, not frozen -/
theorem RepW.own {x : W} {v : V} {a : Addr} (r : RepW K w Hf H x v) (h : a ∈ ad x v) : v = .ref a ∧ Hf a = none ∧ ∃ o, H a = some o ∧ NoT o := by
  cases r with
  | d _ => cases h
  | lst e n _ => simp [ad] at h; subst h; exact ⟨rfl, n, _, e, fun _ z => by cases z⟩
  | dct e n _ _ => simp [ad] at h; subst h; exact ⟨rfl, n, _, e, fun _ z => by cases z⟩
theorem RepW.plain {x : W} {v : V} {a : Addr} {u : HO} (r : RepW K w Hf H x v) (h : a ∈ ad x v) (e : H a = some u) : NoT u ∧ ∀ c q, u ≠ LamX.CodeO c q := by
  cases r with
  | d _ => cases h
  | lst e1 n _ => simp [ad] at h; subst h; rw [e1] at e; cases e; exact ⟨fun _ z => (by cases z), fun c q z => (by unfold LamX.CodeO at z; cases z)⟩
  | dct e1 n _ _ => simp [ad] at h; subst h; rw [e1] at e; cases e; exact ⟨fun _ z => (by cases z), fun c q z => (by unfold LamX.CodeO at z; cases z)⟩
theorem Fam.own {L : List WV} {a : Addr} (f : Fam K w Hf H L) (h : Owned L a) : Hf a = none ∧ ∃ o, H a = some o ∧ NoT o := by
  obtain ⟨p, hp, ha⟩ := h
  exact ((f.rep p hp).own ha).2
theorem RepW.mono {x : W} {v : V} (r : RepW K w Hf H x v) (h : Same Hf Hg) (hh : ∀ a ∈ ad x v, ∀ o, H a = some o → NoT o → H' a = some o) (hn : ∀ a ∈ ad x v, Hg a = none) : RepW K w Hg H' x v := by
  cases r with
  | d r => exact .d (r.mono h)
  | lst e n l => exact .lst (hh _ (by simp [ad]) _ e fun _ z => by cases z) (hn _ (by simp [ad])) (l.mono h)
  | dct e n k l => exact .dct (hh _ (by simp [ad]) _ e fun _ z => by cases z) (hn _ (by simp [ad])) k (l.mono h)

/-- from one state to a later one: L what was owned, M what is owned then -/
structure Step (Hf H : Hp) (L : List WV) (Hg H' : Hp) (M : List WV) : Prop where
  subf : Same Hf Hg
  sub : Same Hg H'
  keep : ∀ b o, H b = some o → NoT o → ¬ Owned L b → H' b = some o
  newO : ∀ b, Owned M b → Owned L b ∨ Fr H b
  newF : ∀ b o, Hg b = some o → Hf b = some o ∨ Owned L b ∨ Fr H b
/-- an object that is neither a table nor a code object is written, or is new -/
theorem tabs_upd {T : List (Addr × Str)} {H : Hp} {p : Addr} {o : HO} (t : LamX.Tabs T H) (h : ∀ u, H p = some u → NoT u ∧ ∀ c q, u ≠ LamX.CodeO c q) : LamX.Tabs T (upd H p o) := fun x hx => by
  obtain ⟨ps, h1, h2, h3⟩ := t x hx
  have n : x.1 ≠ p := fun e => (h _ (e ▸ h1)).1 ps rfl
  refine ⟨ps, by rw [upd_ne n]; exact h1, h2, fun pos cv hc => ?_⟩
  obtain ⟨c, e1, e2⟩ := h3 pos cv hc
  have m : c ≠ p := fun e => (h (LamX.CodeO c x.2) (by rw [← e]; exact e2)).2 _ _ rfl
  exact ⟨c, e1, by rw [upd_ne m]; exact e2⟩
theorem Step.refl {L : List WV} (s : Same Hf H) : Step Hf H L Hf H L := ⟨Same.refl _, s, fun _ _ e _ _ => e, fun _ h => .inl h, fun _ _ h => .inl h⟩
theorem Step.there {Hf H Hg H' : Hp} {L M : List WV} (s : Step Hf H L Hg H' M) {b : Addr} (h : Fr H' b) : Owned L b ∨ Fr H b := by
  rcases Fr.or H b with q | ⟨o, e, n⟩
  · exact .inr q
  · by_cases q : Owned L b
    · exact .inl q
    · exact (h.no (s.keep b o e n q) n).elim
/-- with things T beside, which the second part does not touch -/
theorem Step.trans {Hf H Hf1 H1 Hf2 H2 : Hp} {L T L1 M : List WV} (a : Step Hf H L Hf1 H1 (T ++ L1)) (b : Step Hf1 H1 L1 Hf2 H2 M) : Step Hf H L Hf2 H2 (T ++ M) where
  subf := a.subf.trans b.subf
  sub := b.sub
  keep := fun c o e t n => b.keep c o (a.keep c o e t n) t fun q => by
    rcases a.newO c (Owned.append.mpr (.inr q)) with z | z
    · exact n z
    · exact z.no e t
  newO := fun c h => by
    rcases Owned.append.mp h with h | h
    · exact a.newO c (Owned.append.mpr (.inl h))
    · rcases b.newO c h with h | h
      · exact a.newO c (Owned.append.mpr (.inr h))
      · exact a.there h
  newF := fun c o h => by
    rcases b.newF c o h with h | h | h
    · exact a.newF c o h
    · rcases a.newO c (Owned.append.mpr (.inr h)) with z | z
      · exact .inr (.inl z)
      · exact .inr (.inr z)
    · exact .inr (a.there h)
theorem Step.tr {Hf H Hf1 H1 Hf2 H2 : Hp} {L L1 M : List WV} (a : Step Hf H L Hf1 H1 L1) (b : Step Hf1 H1 L1 Hf2 H2 M) : Step Hf H L Hf2 H2 M := Step.trans (T := []) a b
theorem Step.less {Hf H Hf1 H1 : Hp} {L M M' : List WV} (a : Step Hf H L Hf1 H1 M) (h : ∀ b, Owned M' b → Owned M b) : Step Hf H L Hf1 H1 M' := ⟨a.subf, a.sub, a.keep, fun b q => a.newO b (h b q), a.newF⟩
/-- what stood beside still stands -/
theorem Fam.carry {Hf1 H1 Hf2 H2 : Hp} {T L1 M : List WV} (f : Fam K w Hf1 H1 (T ++ L1)) (b : Step Hf1 H1 L1 Hf2 H2 M) (g : Fam K w Hf2 H2 M) : Fam K w Hf2 H2 (T ++ M) := by
  obtain ⟨p1, p2, p3⟩ := List.pairwise_append.mp f.dj
  have nT : ∀ a, Owned T a → ¬ Owned L1 a := fun a ⟨p, hp, ha⟩ ⟨q, hq, hb⟩ => p3 p hp q hq a ha hb
  have tT : ∀ a, Owned T a → Hf1 a = none ∧ ∃ o, H1 a = some o ∧ NoT o := fun a h => f.own (Owned.append.mpr (.inl h))
  refine ⟨fun p hp => ?_, List.pairwise_append.mpr ⟨p1, g.dj, fun p hp q hq a ha hb => ?_⟩, g.tabs, g.nt⟩
  · rcases List.mem_append.mp hp with hp | hp
    · refine (f.rep p (List.mem_append_left _ hp)).mono b.subf (fun a ha o e n => b.keep a o e n (nT a ⟨p, hp, ha⟩)) fun a ha => ?_
      obtain ⟨z1, o, z2, z3⟩ := tT a ⟨p, hp, ha⟩
      cases e : Hf2 a with
      | none => rfl
      | some o' =>
        rcases b.newF a o' e with q | q | q
        · rw [z1] at q; cases q
        · exact absurd q (nT a ⟨p, hp, ha⟩)
        · exact (q.no z2 z3).elim
    · exact g.rep p hp
  · obtain ⟨_, o, z2, z3⟩ := tT a ⟨p, hp, ha⟩
    rcases b.newO a ⟨q, hq, hb⟩ with z | z
    · exact nT a ⟨p, hp, ha⟩ z
    · exact z.no z2 z3

/-- the slots -/
inductive Sl : Env → St → List WV → Prop
  | nil : Sl [] [] []
  | skip {env : Env} {σ : St} {L : List WV} {s : Option V} : Sl env σ L → Sl (none :: env) (s :: σ) L
  | cons {env : Env} {σ : St} {L : List WV} {x : W} {v : V} : Sl env σ L → Sl (some x :: env) (some v :: σ) ((x, v) :: L)
theorem Sl.length : ∀ {env : Env} {σ : St} {L : List WV}, Sl env σ L → env.length = σ.length
  | _, _, _, .nil => rfl
  | _, _, _, .skip h => by rw [List.length_cons, List.length_cons, Sl.length h]
  | _, _, _, .cons h => by rw [List.length_cons, List.length_cons, Sl.length h]
theorem slot_nil {i : Nat} : slot [] i = none := by cases i <;> rfl
theorem slot_zero {o : Option W} {env : Env} : slot (o :: env) 0 = o := rfl
theorem slot_succ {o : Option W} {env : Env} {i : Nat} : slot (o :: env) (i + 1) = slot env i := by unfold slot; simp
/-- a slot taken out -/
theorem Sl.out : ∀ {env : Env} {σ : St} {L : List WV} {i : Nat} {x : W}, Sl env σ L → slot env i = some x → ∃ v M, σ[i]? = some (some v) ∧ Sl (env.set i none) σ M ∧ L.Perm ((x, v) :: M)
  | _, _, _, i, x, .nil, e => by rw [slot_nil] at e; cases e
  | _, _, _, 0, x, .skip h, e => by rw [slot_zero] at e; cases e
  | _, _, _, 0, x, .cons h, e => by
    rw [slot_zero] at e; cases e
    exact ⟨_, _, rfl, .skip h, .refl _⟩
  | _, _, _, i + 1, x, .skip h, e => by
    rw [slot_succ] at e
    obtain ⟨v, M, e1, s, p⟩ := Sl.out h e
    exact ⟨v, M, by simpa using e1, .skip s, p⟩
  | _, _, _, i + 1, x, .cons (x := y) (v := u) h, e => by
    rw [slot_succ] at e
    obtain ⟨v, M, e1, s, p⟩ := Sl.out h e
    exact ⟨v, (y, u) :: M, by simpa using e1, .cons s, (p.cons _).trans (List.Perm.swap _ _ _)⟩
/-- a slot put in, where the value stands already -/
theorem Sl.into : ∀ {env : Env} {σ : St} {M : List WV} {i : Nat} {x : W} {v : V}, Sl (env.set i none) σ M → σ[i]? = some (some v) → ∃ L, Sl (env.set i (some x)) σ L ∧ L.Perm ((x, v) :: M)
  | [], σ, M, i, x, v, h, e => by
    cases h
    simp at e
  | o :: env, s :: σ, M, 0, x, v, h, e => by
    simp at e; subst e
    cases h with
    | skip h => exact ⟨_, .cons h, .refl _⟩
  | none :: env, s :: σ, M, i + 1, x, v, h, e => by
    cases h with
    | skip h =>
      obtain ⟨L, h1, p⟩ := Sl.into (x := x) h (by simpa using e)
      exact ⟨L, .skip h1, p⟩
  | some y :: env, s :: σ, M, i + 1, x, v, h, e => by
    cases h with
    | cons h =>
      obtain ⟨L, h1, p⟩ := Sl.into (x := x) h (by simpa using e)
      exact ⟨_, .cons h1, (p.cons _).trans (List.Perm.swap _ _ _)⟩
  | _ :: _, [], _, _, _, _, h, e => by simp at e
/-- a slot stored: the state's slot too -/
theorem Sl.put : ∀ {env : Env} {σ : St} {M : List WV} {i : Nat} {x : W} {v : V}, Sl (env.set i none) σ M → i < env.length → ∃ L, Sl (env.set i (some x)) (σ.set i (some v)) L ∧ L.Perm ((x, v) :: M)
  | [], σ, M, i, x, v, h, e => by simp at e
  | o :: env, s :: σ, M, 0, x, v, h, e => by
    cases h with
    | skip h => exact ⟨_, .cons h, .refl _⟩
  | none :: env, s :: σ, M, i + 1, x, v, h, e => by
    cases h with
    | skip h =>
      obtain ⟨L, h1, p⟩ := Sl.put (x := x) (v := v) h (by simpa using e)
      exact ⟨L, .skip h1, p⟩
  | some y :: env, s :: σ, M, i + 1, x, v, h, e => by
    cases h with
    | cons h =>
      obtain ⟨L, h1, p⟩ := Sl.put (x := x) (v := v) h (by simpa using e)
      exact ⟨_, .cons h1, (p.cons _).trans (List.Perm.swap _ _ _)⟩
  | o :: env, [], M, i, x, v, h, e => by
    have := h.length
    simp at this
/-- a slot forgotten -/
theorem Sl.drop : ∀ {env : Env} {σ : St} {L : List WV} (i : Nat), Sl env σ L → ∃ M, Sl (env.set i none) σ M ∧ M.Sublist L
  | _, _, _, _, .nil => ⟨[], .nil, List.Sublist.refl _⟩
  | _, _, _, 0, .skip h => ⟨_, .skip h, List.Sublist.refl _⟩
  | _, _, _, 0, .cons h => ⟨_, .skip h, List.sublist_cons_self _ _⟩
  | _, _, _, i + 1, .skip h => by
    obtain ⟨M, a, b⟩ := Sl.drop i h
    exact ⟨M, .skip a, b⟩
  | _, _, _, i + 1, .cons h => by
    obtain ⟨M, a, b⟩ := Sl.drop i h
    exact ⟨_, .cons a, b.cons_cons _⟩
/-- the state's slot of a forgotten one may be anything -/
theorem Sl.any : ∀ {env : Env} {σ : St} {L : List WV} (i : Nat) (s : Option V), Sl (env.set i none) σ L → Sl (env.set i none) (σ.set i s) L
  | [], σ, L, i, s, h => by cases h; exact .nil
  | o :: env, [], L, i, s, h => by
    have := h.length
    simp at this
  | o :: env, t :: σ, L, 0, s, h => by
    cases h with
    | skip h => exact .skip h
  | none :: env, t :: σ, L, i + 1, s, h => by
    cases h with
    | skip h => exact .skip (Sl.any i s h)
  | some x :: env, t :: σ, L, i + 1, s, h => by
    cases h with
    | cons h => exact .cons (Sl.any i s h)
end
end PyEv

set_option maxRecDepth 100000
set_option maxHeartbeats 2000000
/-! PyB2: the transformers of the evaluator. -/
namespace PyEv
open PySem L2
variable [TabL]

/-- how an exception of data lies: its class and its own dict -/
abbrev XI := Value → Option Addr → D → Hp → Hp → Prop

section
variable {K : PySem.W.Frag} {w : World} {Hf Hg H H' : Hp}

structure St0 (K : PySem.W.Frag) (w : World) (env : Env) (σ : St) (Hf H : Hp) (L : List WV) : Prop where
  sl : Sl env σ L
  fam : Fam K w Hf H L
  sub : Same Hf H

/-- how results stand: at a heap, the result, its value, what it still owns -/
abbrev RR (α β : Type) := St → Hp → α → β → List WV → Prop

/-- what is wanted of the rest of a run that began at (Hf, H, L) -/
def Fin {γ δ : Type} (K : PySem.W.Frag) (w : World) (xi : XI) (X : WX) (R : RR γ δ) (σ : St) (Hf H : Hp) (L : List WV) (res : Res γ) (Q : δ → Hp → Prop) : Prop := match res with
  | .ok c env => ∀ d T Hg H' L', R σ Hg c d T → Sl env σ L' → Step Hf H L Hg H' (T ++ L') → Fam K w Hg H' (T ++ L') → Q d H'
  | .exc x env => ∀ Hg H' L' cls dd, Sl env σ L' → Step Hf H L Hg H' L' → Fam K w Hg H' L' → xi cls dd x Hg H' → X cls dd σ H'
  | .bad => False

def tG {γ δ : Type} (K : PySem.W.Frag) (w : World) (xi : XI) (X : WX) (R : RR γ δ) (r : Env → Res γ) (σ : St) (H : Hp) (Q : δ → Hp → Prop) : Prop :=
  ∃ Hf env L, St0 K w env σ Hf H L ∧ Fin K w xi X R σ Hf H L (r env) Q

/-- one part of a run: base the run's begin, then the state with things T beside the slots -/
theorem bindG {α β γ δ : Type} {xi : XI} {X : WX} {R1 : RR α β} {R2 : RR γ δ} {r : Env → Res α} {f : α → Env → Res γ} {σ : St} {Hf H Hf1 H1 : Hp} {L T L1 : List WV} {env1 : Env} {Q : δ → Hp → Prop} {Q' : β → Hp → Prop}
    (st : Step Hf H L Hf1 H1 (T ++ L1)) (fam : Fam K w Hf1 H1 (T ++ L1)) (sl : Sl env1 σ L1) (fin : Fin K w xi X R2 σ Hf H L ((r env1).bind f) Q)
    (next : ∀ a env2 b T2 Hf2 H2 L2, R1 σ Hf2 a b T2 → Sl env2 σ L2 → Step Hf H L Hf2 H2 (T ++ (T2 ++ L2)) → Fam K w Hf2 H2 (T ++ (T2 ++ L2)) → Step Hf1 H1 L1 Hf2 H2 (T2 ++ L2) → Fin K w xi X R2 σ Hf H L (f a env2) Q → Q' b H2) :
    tG K w xi X R1 r σ H1 Q' := by
  have famL : Fam K w Hf1 H1 L1 := fam.sub (List.sublist_append_right _ _)
  refine ⟨Hf1, env1, L1, ⟨sl, famL, st.sub⟩, ?_⟩
  cases e : r env1 with
  | ok a env2 =>
    intro b T2 Hf2 H2 L2 hR hs hst hf
    rw [e] at fin
    exact next a env2 b T2 Hf2 H2 L2 hR hs (st.trans hst) (fam.carry hst hf) hst fin
  | exc x env2 =>
    intro Hf2 H2 L2 cls dd hs hst hf hx
    rw [e] at fin
    exact fin Hf2 H2 L2 cls dd hs ((st.trans hst).less fun b q => Owned.append.mpr (.inr q)) hf hx
  | bad =>
    rw [e] at fin
    exact fin
/-- the first part -/
theorem bindF {α β γ δ : Type} {xi : XI} {X : WX} {R1 : RR α β} {R2 : RR γ δ} {r : Env → Res α} {f : α → Env → Res γ} {σ : St} {H : Hp} {Q : δ → Hp → Prop} {Q' : β → Hp → Prop}
    (h : tG K w xi X R2 (fun env => (r env).bind f) σ H Q)
    (next : ∀ Hf L, ∀ a env2 b T2 Hf2 H2 L2, R1 σ Hf2 a b T2 → Sl env2 σ L2 → Step Hf H L Hf2 H2 (T2 ++ L2) → Fam K w Hf2 H2 (T2 ++ L2) → Fin K w xi X R2 σ Hf H L (f a env2) Q → Q' b H2) :
    tG K w xi X R1 r σ H Q' := by
  obtain ⟨Hf, env, L, s0, fin⟩ := h
  exact bindG (T := []) (Step.refl s0.sub) s0.fam s0.sl fin fun a env2 b T2 Hf2 H2 L2 h1 h2 h3 h4 _ h5 => next Hf L a env2 b T2 Hf2 H2 L2 h1 h2 h3 h4 h5

/-! ### the kinds of results -/
/-- an operand -/
inductive RAr : RR Ar V
  | vr {σ : St} {Hf : Hp} {i : Nat} {v : V} : σ[i]? = some (some v) → RAr σ Hf (.vr i) v []
  | val {σ : St} {Hf : Hp} {x : W} {v : V} : RAr σ Hf (.val x) v [(x, v)]
def RB : RR Bool Bool := fun _ _ a b T => a = b ∧ T = []
/-- data for good -/
def RD (K : PySem.W.Frag) (w : World) : RR D V := fun _ Hf d v T => Den K w Hf d v ∧ T = []
def RDs (K : PySem.W.Frag) (w : World) : RR (List D) (List V) := fun _ Hf ds vs T => DenL K w Hf ds vs ∧ T = []
inductive RArs : RR (List Ar) (List V)
  | nil {σ : St} {Hf : Hp} : RArs σ Hf [] [] []
  | cons {σ : St} {Hf Hg : Hp} {a : Ar} {v : V} {T : List WV} {as : List Ar} {vs : List V} {Ts : List WV} : RAr σ Hg a v T → RArs σ Hf as vs Ts → RArs σ Hf (a :: as) (v :: vs) (T ++ Ts)

/-! ### reading -/
inductive View (K : PySem.W.Frag) (w : World) (Hf H : Hp) : D → V → Prop
  | den {d : D} {v : V} : Den K w Hf d v → View K w Hf H d v
  | lst {a : Addr} {ds : List D} {vs : List V} : H a = some (.lst vs) → DenL K w Hf ds vs → View K w Hf H (.lst ds) (.ref a)
  | dct {a : Addr} {ks : List Str} {ds : List D} {kvs : List (Key × V)} : H a = some (.dK kvs) → kvs.map (·.1) = ks.map Sum.inr → DenL K w Hf ds (kvs.map (·.2)) → View K w Hf H (.dct ks ds) (.ref a)
theorem RepW.view {x : W} {v : V} (r : RepW K w Hf H x v) : View K w Hf H x.frz v := by
  cases r with
  | d r => exact .den r
  | lst e n l => exact .lst e l
  | dct e n k l => exact .dct e k l
theorem View.mono (r : View K w Hf H d v) (h : Same Hf Hg) (hh : Same H H') : View K w Hg H' d v := by
  cases r with
  | den r => exact .den (r.mono h)
  | lst e l => exact .lst (hh _ _ e) (l.mono h)
  | dct e k l => exact .dct (hh _ _ e) k (l.mono h)
/-- an operand at its use -/
theorem use_view {σ : St} {Hx : Hp} {a : Ar} {v : V} {T T' L : List WV} {env : Env} {d : D} (r : RAr σ Hx a v T) (ht : ∀ p ∈ T, p ∈ T') (sl : Sl env σ L) (fam : Fam K w Hf H (T' ++ L)) (e : use env a = some d) : View K w Hf H d v := by
  cases r with
  | @vr σ Hx i v hi =>
    have e : (slot env i).map W.frz = some d := e
    cases es : slot env i with
    | none => rw [es] at e; cases e
    | some x =>
      rw [es] at e
      have e' : x.frz = d := Option.some.inj e
      obtain ⟨u, M, h1, h2, p⟩ := sl.out es
      rw [hi] at h1; cases h1
      rw [← e']
      exact (fam.rep (x, v) (List.mem_append_right _ (p.mem_iff.mpr List.mem_cons_self))).view
  | @val σ Hx x v =>
    have e' : x.frz = d := Option.some.inj e
    rw [← e']
    exact (fam.rep (x, v) (List.mem_append_left _ (ht _ List.mem_cons_self))).view
theorem View.int {i : Int} {v : V} (h : View K w Hf H (.int i) v) : v = .int i := by
  cases h with
  | den h => cases h; rfl
theorem View.bl {i : Bool} {v : V} (h : View K w Hf H (.bl i) v) : v = .bl i := by
  cases h with
  | den h => cases h; rfl
theorem View.str {i : Str} {v : V} (h : View K w Hf H (.str i) v) : v = .str i := by
  cases h with
  | den h => cases h; rfl
theorem View.non {v : V} (h : View K w Hf H .non v) : v = .non := by
  cases h with
  | den h => cases h; rfl
theorem View.lst' {ds : List D} {v : V} (h : View K w Hf H (.lst ds) v) (s : Same Hf H) : ∃ a vs, v = .ref a ∧ H a = some (.lst vs) ∧ DenL K w Hf ds vs := by
  cases h with
  | den h =>
    cases h with
    | lst e l => exact ⟨_, _, rfl, s _ _ e, l⟩
  | lst e l => exact ⟨_, _, rfl, e, l⟩
theorem View.tup' {ds : List D} {v : V} (h : View K w Hf H (.tup ds) v) (s : Same Hf H) : ∃ a vs, v = .ref a ∧ SqT K H a vs ∧ DenL K w Hf ds vs := by
  cases h with
  | den h =>
    cases h with
    | tup e l => exact ⟨_, _, rfl, SqT.same s e, l⟩
theorem View.scr' {ns : List Int} {v : V} (h : View K w Hf H (.scr ns) v) (s : Same Hf H) : ∃ a, v = .ref a ∧ SqL K H a (ns.map V.int) := by
  cases h with
  | den h =>
    cases h with
    | scr e => exact ⟨_, rfl, s.seq e⟩
/-- what every value of data is by its kind -/
theorem View.seq {ds : List D} {v : V} (h : View K w Hf H (.lst ds) v ∨ View K w Hf H (.tup ds) v) (s : Same Hf H) : ∃ a vs, v = .ref a ∧ (SqL K H a vs ∨ SqT K H a vs) ∧ DenL K w Hf ds vs := by
  rcases h with h | h
  · obtain ⟨a, vs, e, q, l⟩ := h.lst' s
    exact ⟨a, vs, e, .inl (SqL.of q), l⟩
  · obtain ⟨a, vs, e, q, l⟩ := h.tup' s
    exact ⟨a, vs, e, .inr q, l⟩

/-! ### new things -/
theorem same_upd {p : Addr} {o : HO} (h : H p = none) : Same H (upd H p o) := fun b u q => by rw [upd_ne (ne_of_none q h)]; exact q
theorem same_upd2 {p : Addr} {o : HO} (s : Same Hf H) : Same (upd Hf p o) (upd H p o) := fun b u q => by
  by_cases e : b = p
  · subst e; rw [upd_same] at q ⊢; exact q
  · rw [upd_ne e] at q ⊢; exact s _ _ q
theorem none_of (s : Same Hf H) {p : Addr} (h : H p = none) : Hf p = none := by
  cases e : Hf p with
  | none => rfl
  | some o => rw [s _ _ e] at h; cases h
/-- a new thing that never changes -/
theorem new_frz {p : Addr} {o : HO} {L : List WV} (s : Same Hf H) (hp : H p = none) (no : NoT o) (f : Fam K w Hf H L) : Step Hf H L (upd Hf p o) (upd H p o) L ∧ Fam K w (upd Hf p o) (upd H p o) L := by
  have st : Step Hf H [] (upd Hf p o) (upd H p o) [] := ⟨same_upd (none_of s hp), same_upd2 s, fun b u e _ _ => same_upd hp b u e, fun b h => (Owned.nil h).elim, fun b u e => by
    by_cases q : b = p
    · subst q; exact .inr (.inr (.non hp))
    · rw [upd_ne q] at e; exact .inl e⟩
  refine ⟨⟨st.subf, st.sub, fun b u e n _ => st.keep b u e n Owned.nil, fun b h => .inl h, fun b u e => ?_⟩, ?_⟩
  · rcases st.newF b u e with h | h | h
    · exact .inl h
    · exact (Owned.nil h).elim
    · exact .inr (.inr h)
  · have := Fam.carry (T := L) (L1 := []) (M := []) (by rw [List.append_nil]; exact f) st (Fam.nil (tabs_upd f.tabs fun u e => by rw [hp] at e; cases e) fun b u e => by
      by_cases q : b = p
      · subst q; rw [upd_same] at e; cases e; exact no
      · rw [upd_ne q] at e; exact f.nt b u e)
    rw [List.append_nil] at this
    exact this
/-- a new list or dict that this frame owns -/
theorem new_own {p : Addr} {o : HO} {x : W} {L : List WV} (s : Same Hf H) (hp : H p = none) (f : Fam K w Hf H L) (r : RepW K w Hf (upd H p o) x (.ref p)) :
    Step Hf H L Hf (upd H p o) ((x, .ref p) :: L) ∧ Fam K w Hf (upd H p o) ((x, .ref p) :: L) := by
  have sm := same_upd (o := o) hp
  have hx : ∀ b, b ∈ ad x (.ref p) → b = p := fun b hb => by
    have := (r.own hb).1
    injection this with e
    exact e.symm
  refine ⟨⟨Same.refl _, s.trans sm, fun b u e _ _ => sm b u e, fun b h => ?_, fun b u e => .inl e⟩, ⟨fun q hq => ?_, List.pairwise_cons.mpr ⟨fun q hq a ha hb => ?_, f.dj⟩, tabs_upd f.tabs (fun u e => by rw [hp] at e; cases e), f.nt⟩⟩
  · rcases Owned.cons.mp h with h | h
    · rw [hx b h]; exact .inr (.non hp)
    · exact .inl h
  · rcases List.mem_cons.mp hq with rfl | hq
    · exact r
    · exact (f.rep q hq).mono (Same.refl _) (fun a _ o' e _ => sm a o' e) fun a ha => ((f.rep q hq).own ha).2.1
  · have e := hx a ha
    obtain ⟨_, _, o', e2, _⟩ := (f.rep q hq).own hb
    rw [e, hp] at e2; cases e2

/-- an own object written anew: it stays the same one -/
theorem write_own {a : Addr} {o : HO} {x y : W} {L : List WV} (s : Same Hf H) (f : Fam K w Hf H ((x, .ref a) :: L)) (ha : a ∈ ad x (.ref a)) (hy : ∀ b ∈ ad y (.ref a), b = a) (r : RepW K w Hf (upd H a o) y (.ref a)) :
    Step Hf H ((x, .ref a) :: L) Hf (upd H a o) ((y, .ref a) :: L) ∧ Fam K w Hf (upd H a o) ((y, .ref a) :: L) := by
  have own : Owned ((x, .ref a) :: L) a := Owned.cons.mpr (.inl ha)
  obtain ⟨n, uo, euo, _⟩ := f.own own
  have wt : LamX.Tabs TabL.T (upd H a o) := tabs_upd f.tabs fun u e => (f.rep _ List.mem_cons_self).plain ha e
  obtain ⟨d1, d2⟩ := List.pairwise_cons.mp f.dj
  have nL : ∀ q ∈ L, a ∉ adp q := fun q hq => d1 q hq a ha
  refine ⟨⟨Same.refl _, fun b u e => ?_, fun b u e _ h => ?_, fun b h => ?_, fun b u e => .inl e⟩, ⟨fun q hq => ?_, List.pairwise_cons.mpr ⟨fun q hq b hb h2 => ?_, d2⟩, wt, f.nt⟩⟩
  · have : b ≠ a := fun z => by rw [z, n] at e; cases e
    rw [upd_ne this]; exact s _ _ e
  · have : b ≠ a := fun z => h (z ▸ own)
    rw [upd_ne this]; exact e
  · rcases Owned.cons.mp h with h | h
    · rw [hy b h]; exact .inl own
    · exact .inl (Owned.cons.mpr (.inr h))
  · rcases List.mem_cons.mp hq with rfl | hq
    · exact r
    · have fr := f.rep q (List.mem_cons_of_mem _ hq)
      exact fr.mono (Same.refl _) (fun b hb o' e _ => by
        have : b ≠ a := fun z => nL q hq (z ▸ hb)
        rw [upd_ne this]; exact e) fun b hb => (fr.own hb).2.1
  · rw [hy b hb] at h2
    exact nL q hq h2

/-- frozen: what was owned never changes any more -/
theorem freeze {x : W} {v : V} {L : List WV} (s : Same Hf H) (f : Fam K w Hf H ((x, v) :: L)) :
    ∃ Hg, Den K w Hg x.frz v ∧ Step Hf H ((x, v) :: L) Hg H L ∧ Fam K w Hg H L := by
  have r := f.rep (x, v) List.mem_cons_self
  obtain ⟨d1, d2⟩ := List.pairwise_cons.mp f.dj
  have go : ∀ (a : Addr) (o : HO), v = .ref a → a ∈ ad x v → H a = some o → NoT o → Hf a = none → (∀ Hg, Same Hf Hg → Hg a = some o → Den K w Hg x.frz v) → ∃ Hg, Den K w Hg x.frz v ∧ Step Hf H ((x, v) :: L) Hg H L ∧ Fam K w Hg H L := by
    intro a o ev ha e no n mk
    have sm : Same Hf (upd Hf a o) := same_upd n
    have su : Same (upd Hf a o) H := fun b u q => by
      by_cases z : b = a
      · subst z; rw [upd_same] at q; cases q; exact e
      · rw [upd_ne z] at q; exact s _ _ q
    refine ⟨upd Hf a o, mk _ sm upd_same, ⟨sm, su, fun b u e _ _ => e, fun b h => .inl (Owned.cons.mpr (.inr h)), fun b u q => ?_⟩, ⟨fun q hq => ?_, d2, f.tabs, fun b u q => ?_⟩⟩
    · by_cases z : b = a
      · subst z; exact .inr (.inl (Owned.cons.mpr (.inl ha)))
      · rw [upd_ne z] at q; exact .inl q
    · have fr := f.rep q (List.mem_cons_of_mem _ hq)
      refine fr.mono sm (fun _ _ _ e _ => e) fun b hb => ?_
      have : b ≠ a := fun z => d1 q hq a ha (z ▸ hb)
      rw [upd_ne this]; exact (fr.own hb).2.1
    · by_cases z : b = a
      · subst z; rw [upd_same] at q; cases q; exact no
      · rw [upd_ne z] at q; exact f.nt b u q
  cases r with
  | d r =>
    refine ⟨Hf, r, ⟨Same.refl _, s, fun b u e _ _ => e, fun b h => .inl (Owned.cons.mpr (.inr h)), fun b u e => .inl e⟩, f.sub (List.sublist_cons_self _ _)⟩
  | @lst a ds vs e n l => exact go a _ rfl (by simp [ad]) e (fun _ z => by cases z) n fun Hg sm eg => .lst eg (l.mono sm)
  | @dct a ks ds kvs e n k l => exact go a _ rfl (by simp [ad]) e (fun _ z => by cases z) n fun Hg sm eg => .dct eg k (l.mono sm)
end
end PyEv

set_option maxRecDepth 100000
set_option maxHeartbeats 2000000
/-! PyOk: the text against the small syntax. -/
namespace PyEv
open PySem L2

abbrev Nms := List (Str × NameKind)
structure Sc where
  N : List Str
  nm : Nms

def visB (nm : Nms) (x : Str) : Bool := match nm.lookup x with
  | some .local => true
  | some .cell => true
  | some .free => true
  | _ => false
def locB (nm : Nms) (x : Str) : Bool := match nm.lookup x with
  | some .local => true
  | some .cell => true
  | _ => false
def glB (nm : Nms) (x : Str) : Bool := match nm.lookup x with
  | some .globalImplicit => true
  | _ => false
/-- not a lambda's own names -/
def unm (nm : Nms) : Bool := (nm.lookup ("<lambda>" : Str)).isNone
def noArgs : Arguments → Bool
  | ⟨[], [], none, [], [], none, []⟩ => true
  | _ => false
def lamB (nm : Nms) (scope : Scope) : Bool :=
  decide (scope.kind = .function) && !scope.isCoroutine && !scope.isGenerator && scope.names.all fun y => !decide (y.2 = .local) && !decide (y.2 = .cell) && (!decide (y.2 = .free) || decide (nm.lookup y.1 = some .cell) || decide (nm.lookup y.1 = some .free))
def nameB (x : Str) : Bool := !(x == ("__debug__" : Str)) && !(x == ("__classdict__" : Str)) && !(x == ("__name__" : Str))

def boOk : Bo → Operator → Bool
  | .add, .Add => true
  | .sub, .Sub => true
  | .mul, .Mult => true
  | .fdv, .FloorDiv => true
  | .mod, .Mod => true
  | .pow, .Pow => true
  | _, _ => false
def coOk : Co → CmpOp → Bool
  | .eq, .Eq => true
  | .ne, .NotEq => true
  | .lt, .Lt => true
  | .le, .LtE => true
  | .gt, .Gt => true
  | .ge, .GtE => true
  | .isN, .Is => true
  | .notN, .IsNot => true
  | .isin, .In => true
  | .notin, .NotIn => true
  | _, _ => false
def biName : Bi → String
  | .len => "len"
  | .tuple => "tuple"
  | .list => "list"
  | .all => "all"
  | .any => "any"
  | .repr => "repr"
  | .abs => "abs"
  | .int => "int"
def tyName : Ty → String
  | .str => "str"
  | .int => "int"
  | .bool => "bool"
  | .tuple => "tuple"
  | .list => "list"
  | .dict => "dict"
def bmName : Bm → String
  | .join => "join"
  | .split => "split"
  | .startswith => "startswith"
  | .get1 => "get"
  | .get2 => "get"
def mmName : Mm → String
  | .append => "append"
  | .extend => "extend"
  | .popAt => "pop"

/-- no star -/
def plainX : Expr → Bool
  | .Starred .. => false
  | _ => true
def notSl : Expr → Bool
  | .Slice .. => false
  | _ => true
/-- no set display -/
def notSet : Expr → Bool
  | .Set .. => false
  | _ => true
def notSuper : Expr → Bool
  | .Call (.Name _ _) [] [] _ => false
  | _ => true
def isComp : Expr → Bool
  | .ListComp .. => true
  | .SetComp .. => true
  | .DictComp .. => true
  | _ => false

def tgOk (N : List Str) (nm : Nms) : Tg → Expr → Bool
  | .one i, .Name x _ => decide (N[i]? = some x) && locB nm x && nameB x
  | .two i j, .Tuple [.Name x _, .Name y _] _ _ => decide (N[i]? = some x) && locB nm x && nameB x && decide (N[j]? = some y) && locB nm y && nameB y
  | .three i j k, .Tuple [.Name x _, .Name y _, .Name z _] _ _ => decide (N[i]? = some x) && locB nm x && nameB x && decide (N[j]? = some y) && locB nm y && nameB y && decide (N[k]? = some z) && locB nm z && nameB z
  | _, _ => false
def tgTup : Tg → Bool
  | .one _ => false
  | _ => true

def keysOk : List Str → List (Option Expr) → Bool
  | [], [] => true
  | k :: ks, some (.Constant (.str s) _ _) :: es => decide (k = s) && keysOk ks es
  | _, _ => false

def Es.plain : Es → Bool
  | .nil => true
  | .cons _ es => es.plain
  | .star _ _ => false
mutual
def okE : E → (N : List Str) → (nm : Nms) → Expr → Bool
  | .var i, N, nm, .Name x _ => decide (N[i]? = some x) && visB nm x && nameB x
  | .k c, _, _, .Constant v _ _ => (match c, v with
    | .non, .none => true
    | .bl b, .bool b' => b == b'
    | .int i, .int j => decide (i = j)
    | .str s, .str t => decide (s = t)
    | _, _ => false)
  | .glob x, _, nm, .Name y _ => decide (x = y) && glB nm y && nameB y
  | .tup es, N, nm, .Tuple l _ _ => okIts es N nm l
  | .lst es, N, nm, .List l _ => okIts es N nm l
  | .dct ks es, N, nm, .Dict keys vals _ => keysOk ks keys && okIts es N nm vals && decide (keys.length = vals.length) && decide (ks.length ≤ 15) && decide ks.Nodup && es.plain
  | .bin o a b, N, nm, .BinOp l op r _ => boOk o op && okE a N nm l && okE b N nm r
  | .neg a, N, nm, .UnaryOp .USub x _ => okE a N nm x
  | .cmp o a b, N, nm, .Compare l [op] [r] _ => coOk o op && okE a N nm l && okE b N nm r && notSet r
  | .chain o1 o2 a b c, N, nm, .Compare l [p, q] [r, t] _ => coOk o1 p && coOk o2 q && okE a N nm l && okE b N nm r && okE c N nm t && notSet t
  | .and a b, N, nm, .BoolOp .And (v :: w :: rest) pos => okE a N nm v && okE b N nm (match rest with | [] => w | _ => .BoolOp .And (w :: rest) pos)
  | .or a b, N, nm, .BoolOp .Or (v :: w :: rest) pos => okE a N nm v && okE b N nm (match rest with | [] => w | _ => .BoolOp .Or (w :: rest) pos)
  | .not a, N, nm, .UnaryOp .Not x _ => okE a N nm x
  | .ifx c a b, N, nm, .IfExp t x y _ => okE c N nm t && okE a N nm x && okE b N nm y
  | .call f es, N, nm, .Call (.Name x _) (a :: as) [] _ => decide (f = x) && glB nm x && nameB x && okAs es N nm (a :: as)
  | .bi f a, N, nm, .Call (.Name x _) [v] [] _ => decide (Str.ofString (biName f) = x) && glB nm x && okE a N nm v
  | .mm mx a b, N, nm, .Call (.Name x _) [v, u] [] _ => decide (Str.ofString (if mx = true then "max" else "min") = x) && glB nm x && okE a N nm v && okE b N nm u
  | .isi a t, N, nm, .Call (.Name x _) [v, .Name y _] [] _ => decide (Str.ofString "isinstance" = x) && glB nm x && okE a N nm v && decide (Str.ofString (tyName t) = y) && glB nm y
  | .ix a i, N, nm, .Subscript v s _ => okE a N nm v && okE i N nm s && notSl s
  | .slc a lo hi, N, nm, .Subscript v (.Slice l h none _) _ => okE a N nm v && (match l with | none => lo.isNone | some x => !lo.isNone && okE lo N nm x) && (match h with | none => hi.isNone | some x => !hi.isNone && okE hi N nm x)
  | .rev a, N, nm, .Subscript v (.Slice none none (some (.UnaryOp .USub (.Constant (.int i) _ _) _)) _) _ => decide (i = 1) && okE a N nm v
  | .bm m o es, N, nm, .Call (.Attribute v x apos) (a :: as) [] pos => false && decide (Str.ofString (bmName m) = x) && okE o N nm v && okAs es N nm (a :: as) && notSuper v && decide (apos.endLine = pos.line) && decide ((a :: as).length < 20)
  | .mut m i es, N, nm, .Call (.Attribute (.Name y _) x apos) (a :: as) [] pos => decide (Str.ofString (mmName m) = x) && decide (N[i]? = some y) && visB nm y && nameB y && okIts es N nm (a :: as) && decide (apos.endLine = pos.line) && decide ((a :: as).length < 20) && (a :: as).all plainX
  | .lc elt tg it cond own, N, nm, .ListComp e [⟨t, iter, ifs, ia⟩] scope pos => (decide (ia = 0) && unm nm) && blkC N { scope with names := nm } scope own && okE elt N scope.names e && tgOk N scope.names tg t && okIt it N nm iter && notSet iter &&
      (own.all fun p => decide (p.2 < N.length)) && (match ifs with | [] => cond.isNone | [c] => !cond.isNone && okE cond N scope.names c | _ => false) && (match it with | .zip .. => tgTup tg | .enum .. => tgTup tg | _ => true)
  | .listRange a, N, nm, .Call (.Name x _) [.Call (.Name y _) [v] [] _] [] _ => decide (Str.ofString "list" = x) && glB nm x && decide (Str.ofString "range" = y) && glB nm y && okE a N nm v
  | .mk c e, N, nm, .Call (.Name k _) [ex] [] _ => decide (c = k) && glB nm k && nameB k && okE e N nm ex
  | .fldv e, N, nm, .Attribute v x _ => decide (Str.ofString "value" = x) && okE e N nm v && notSuper v
  | .isx e c, N, nm, .Call (.Name x _) [v, .Name y _] [] _ => decide (Str.ofString "isinstance" = x) && glB nm x && okE e N nm v && decide (c = y) && glB nm y && nameB y
  | .heard h e, N, nm, .Call (.Name x _) [.Lambda ps body scope _] [] _ => decide (h = x) && glB nm x && nameB x && noArgs ps && lamB nm scope && unm nm && okE e N (("<lambda>", .globalExplicit) :: scope.names) body
  | .isv e, N, nm, .Call (.Name x _) [v, .Name y _] [] _ => decide (Str.ofString "isinstance" = x) && glB nm x && okE e N nm v && decide (Str.ofString "ValueError" = y) && glB nm y
  | .fstr es, N, nm, .JoinedStr l _ => okJs es N nm l && decide (2 ≤ l.length)
  | .never, _, _, x => plainX x && !isComp x
  | _, _, _, _ => false
def okJs : Es → (N : List Str) → (nm : Nms) → List Expr → Bool
  | .nil, _, _, [] => true
  | .cons e es, N, nm, .FormattedValue v c none _ :: xs => decide (c = -1) && okE e N nm v && okJs es N nm xs
  | .cons e es, N, nm, .Constant c j p :: xs => okE e N nm (.Constant c j p) && okJs es N nm xs
  | _, _, _, _ => false
def okIts : Es → (N : List Str) → (nm : Nms) → List Expr → Bool
  | .nil, _, _, [] => true
  | .cons e es, N, nm, x :: xs => okE e N nm x && okIts es N nm xs
  | .star e es, N, nm, .Starred x _ :: xs => okE e N nm x && okIts es N nm xs
  | _, _, _, _ => false
def okAs : Es → (N : List Str) → (nm : Nms) → List Expr → Bool
  | .nil, _, _, [] => true
  | .cons e es, N, nm, x :: xs => okE e N nm x && okAs es N nm xs
  | _, _, _, _ => false
def okIt : It → (N : List Str) → (nm : Nms) → Expr → Bool
  | .seq e, N, nm, x => okE e N nm x
  | .range1 a, N, nm, .Call (.Name y _) [v] [] _ => decide (Str.ofString "range" = y) && glB nm y && okE a N nm v
  | .range2 a b, N, nm, .Call (.Name y _) [v, u] [] _ => decide (Str.ofString "range" = y) && glB nm y && okE a N nm v && okE b N nm u
  | .zip a b, N, nm, .Call (.Name y _) [v, u] [] _ => decide (Str.ofString "zip" = y) && glB nm y && okE a N nm v && okE b N nm u
  | .enum a, N, nm, .Call (.Name y _) [v] [] _ => decide (Str.ofString "enumerate" = y) && glB nm y && okE a N nm v
  | _, _, _, _ => false
end

theorem okE_plain : ∀ {e : E} {N : List Str} {nm : Nms} {x : Expr}, okE e N nm x = true → plainX x = true := by
  intro e N nm x h
  cases x <;> first | rfl | (cases e <;> simp [okE, plainX, isComp] at h)
theorem starEach_plain {x : Expr} {xs : List Expr} {env : PySem.Env} (h : plainX x = true) : starEach (x :: xs) env = (false, eval x env) :: starEach xs env := by
  cases x <;> first | rfl | cases h
/-- a test of this form asks its truth -/
def plainTest : Expr → Bool
  | .UnaryOp .Not _ _ => false
  | .BoolOp .. => false
  | .IfExp .. => false
  | .Compare .. => false
  | _ => true
theorem isTrue_plainX {x : Expr} {env : PySem.Env} (h : plainTest x = true) (whole : Sem Value) : isTrue x env whole = (do let v ← whole; standAt x.pos; holding [v] (truthy v)) := by
  cases x with
  | UnaryOp op a p => cases op <;> first | rfl | cases h
  | BoolOp => cases h
  | IfExp => cases h
  | Compare => cases h
  | _ => rfl
theorem nomark_of {x : Expr} (h : notSet x = true) (op : CmpOp) : behindInMarks op x = false := by
  cases x <;> first | rfl | cases h

end PyEv

set_option maxRecDepth 100000
set_option maxHeartbeats 2000000
/-! PyB3: what a sound expression is; names, constants, operators, tests. -/
namespace PyEv
open PySem L2
variable [TabL]

/-! ### the context -/
structure NmOk (X : Cx) (nm : Nms) : Prop where
  vis : ∀ x, visB nm x = true → Vis X.env.scope x
  gl : ∀ x, glB nm x = true → Gl X x
  loc : ∀ x, locB nm x = true → Loc X.env.scope x ∧ (X.fn x = true ∨ X.env.scope.names.lookup x = some .local)
  cf : ∀ x, nm.lookup x = some .cell ∨ nm.lookup x = some .free → X.env.scope.names.lookup x = some .cell ∨ X.env.scope.names.lookup x = some .free

def bltNames : List String := ["len", "tuple", "list", "all", "any", "repr", "abs", "int", "str", "bool", "dict", "max", "min", "isinstance", "range", "zip", "enumerate"]
structure CxOk (X : Cx) (lv : Nat) : Prop where
  calm : X.calm = true
  room : Room lv X.A
  guards : X.A.guards = some []
  nd : X.N.Nodup
  blt : ∀ b ∈ bltNames, X.mg (Str.ofString b) = none
  sys : ∃ o, X.base.get? sysModules = some o

/-- a sound expression -/
structure Snd (X : Cx) (xi : XI) (W : WX) (x : Expr) (r : Env → Res Ar) : Prop where
  pe : PE X x (tG X.K X.w xi W RAr r)
  pt : PT X x (tG X.K X.w xi W RB (fun env => useB (r env)))

theorem impE {X : Cx} {e : Expr} {t t' : TE} (h : PE X e t) (f : ∀ σ H Q, t' σ H Q → t σ H Q) : PE X e t' := ⟨fun pins s σ H Q I q => h.run pins s σ H Q I (f σ H Q q)⟩
theorem impT {X : Cx} {e : Expr} {t t' : TT} (h : PT X e t) (f : ∀ σ H Q, t' σ H Q → t σ H Q) : PT X e t' := ⟨fun pins s σ H Q I q => h.run pins s σ H Q I (f σ H Q q)⟩
theorem impA {X : Cx} {e : List Expr} {t t' : TA} (h : PA X e t) (f : ∀ σ H Q, t' σ H Q → t σ H Q) : PA X e t' := ⟨fun pos pins s σ H Q I q => h.run pos pins s σ H Q I (f σ H Q q)⟩

section
variable {X : Cx} {xi : XI} {W : WX}

/-- a bool that an expression gives -/
theorem useB_fin {γ δ : Type} {K : PySem.W.Frag} {w : World} {R2 : RR γ δ} {f : Bool → Env → Res γ} {σ : St} {Hf H Hf1 H1 : Hp} {L T L1 : List WV} {a : Ar} {env1 : Env} {v : V} {Hx : Hp} {Q : δ → Hp → Prop}
    (r : RAr σ Hx a v T) (sl : Sl env1 σ L1) (fam : Fam K w Hf1 H1 (T ++ L1))
    (fin : Fin K w xi W R2 σ Hf H L ((match use env1 a with | some (.bl b) => (Res.ok b env1 : Res Bool) | _ => .bad).bind f) Q) : ∃ b, use env1 a = some (.bl b) ∧ v = .bl b ∧ Fin K w xi W R2 σ Hf H L (f b env1) Q := by
  cases e : use env1 a with
  | none => rw [e] at fin; exact fin.elim
  | some d =>
    cases d with
    | bl b =>
      rw [e] at fin
      exact ⟨b, rfl, (use_view r (fun _ h => h) sl fam e).bl, fin⟩
    | _ => rw [e] at fin; exact fin.elim

theorem Snd.of_pe {pe : Expr} {r : Env → Res Ar} (ht : plainTest pe = true) (h : PE X pe (tG X.K X.w xi W RAr r)) : Snd X xi W pe r := by
  refine ⟨h, impT (pt_val h (fun whole => isTrue_plainX ht whole)) fun σ H Q q => ?_⟩
  refine bindF (R1 := RAr) (R2 := RB) (r := r) q fun Hf L a env2 b T2 Hf2 H2 L2 h1 h2 h3 h4 fin => ?_
  have fin' : Fin X.K X.w xi W RB σ Hf H L ((match use env2 a with | some (.bl b) => (Res.ok b env2 : Res Bool) | _ => .bad).bind fun b env => .ok b env) Q := by
    cases e : use env2 a with
    | none => rw [e] at fin; exact fin.elim
    | some d => cases d <;> (rw [e] at fin; exact fin)
  obtain ⟨k, e1, e2, fin⟩ := useB_fin h1 h2 h4 fin'
  exact ⟨k, e2, fin k [] Hf2 H2 L2 ⟨rfl, rfl⟩ h2 (h3.less fun b q => Owned.append.mpr (.inr q)) (h4.sub (List.sublist_append_right _ _))⟩

/-- a value of data: nothing new stands -/
theorem fin_d {σ : St} {Hf H Hf1 H1 : Hp} {L M L1 : List WV} {env1 : Env} {Q : VK} {d : D} {v : V} (fin : Fin X.K X.w xi W RAr σ Hf H L (.ok (.val (.d d)) env1) Q) (sl : Sl env1 σ L1) (st : Step Hf H L Hf1 H1 (M ++ L1))
    (fam : Fam X.K X.w Hf1 H1 (M ++ L1)) (dn : Den X.K X.w Hf1 d v) : Q v H1 :=
  fin v [(.d d, v)] Hf1 H1 L1 .val sl (st.less fun b q => by
    rcases Owned.cons.mp q with q | q
    · cases q
    · exact Owned.append.mpr (.inr q)) ((fam.sub (List.sublist_append_right _ _)).cons_d dn)
/-- .. a new tuple -/
theorem fin_tup {σ : St} {Hf H Hf1 H1 : Hp} {L M L1 : List WV} {env1 : Env} {Q : VK} {ds : List D} {vs : List V} {p : Addr} (fin : Fin X.K X.w xi W RAr σ Hf H L (.ok (.val (.d (.tup ds))) env1) Q) (sl : Sl env1 σ L1) (st : Step Hf H L Hf1 H1 (M ++ L1))
    (fam : Fam X.K X.w Hf1 H1 (M ++ L1)) (dn : DenL X.K X.w Hf1 ds vs) (hp : H1 p = none) : Q (.ref p) (upd H1 p (.tup vs)) := by
  have f1 := fam.sub (List.sublist_append_right M L1)
  have s1 : Step Hf H L Hf1 H1 L1 := st.less fun b q => Owned.append.mpr (.inr q)
  obtain ⟨a, b⟩ := new_frz (o := .tup vs) s1.sub hp (fun _ z => by cases z) f1
  exact fin_d (M := []) (Hf1 := upd Hf1 p (.tup vs)) (d := .tup ds) fin sl (s1.tr a) b (.tup (SqT.of upd_same) (dn.mono a.subf))
/-- .. a new list of this frame's own -/
theorem fin_lst {σ : St} {Hf H Hf1 H1 : Hp} {L M L1 : List WV} {env1 : Env} {Q : VK} {ds : List D} {vs : List V} {p : Addr} (fin : Fin X.K X.w xi W RAr σ Hf H L (.ok (.val (.lst ds)) env1) Q) (sl : Sl env1 σ L1) (st : Step Hf H L Hf1 H1 (M ++ L1))
    (fam : Fam X.K X.w Hf1 H1 (M ++ L1)) (dn : DenL X.K X.w Hf1 ds vs) (hp : H1 p = none) : Q (.ref p) (upd H1 p (.lst vs)) := by
  have f1 := fam.sub (List.sublist_append_right M L1)
  have s1 : Step Hf H L Hf1 H1 L1 := st.less fun b q => Owned.append.mpr (.inr q)
  obtain ⟨a, b⟩ := new_own (o := .lst vs) (x := .lst ds) s1.sub hp f1 (.lst upd_same (none_of s1.sub hp) dn)
  exact fin (.ref p) [(.lst ds, .ref p)] Hf1 (upd H1 p (.lst vs)) L1 .val sl (s1.tr a) b

/-! ### names, constants -/
theorem nameB_of {x : Str} (h : nameB x = true) : (x == ("__debug__" : Str)) = false ∧ (x == ("__classdict__" : Str)) = false ∧ x ≠ "__name__" := by
  unfold nameB at h
  simp only [Bool.and_eq_true, Bool.not_eq_true'] at h
  exact ⟨h.1.1, h.1.2, fun e => by have := h.2; rw [e] at this; simp at this⟩
theorem snd_var {N : List Str} {nm : Nms} {i : Nat} {x : Str} {pos : Pos} (hN : X.N = N) (n : NmOk X nm) (h : (decide (N[i]? = some x) && visB nm x && nameB x) = true) :
    Snd X xi W (.Name x pos) (fun env => match slot env i with | some _ => .ok (.vr i) env | none => .bad) ∧ PE X (.Name x pos) (tVar i) := by
  simp only [Bool.and_eq_true, decide_eq_true_eq] at h
  obtain ⟨⟨h1, h2⟩, h3⟩ := h
  obtain ⟨n1, n2, _⟩ := nameB_of h3
  have p : PE X (.Name x pos) (tVar i) := pe_var (by rw [hN]; exact h1) (n.vis x h2) n1 n2
  refine ⟨Snd.of_pe rfl (impE p fun σ H Q q => ?_), p⟩
  obtain ⟨Hf, env, L, s0, fin⟩ := q
  cases e : slot env i with
  | none => simp only [e] at fin; exact fin.elim
  | some y =>
    simp only [e] at fin
    obtain ⟨v, M, h1, _, _⟩ := s0.sl.out e
    exact ⟨v, h1, fin v [] Hf H L (.vr h1) s0.sl (Step.refl s0.sub) s0.fam⟩
theorem snd_k {c : C} {v : Const} {j : Nat} {pos : Pos} (h : (match c, v with
    | .non, .none => true
    | .bl b, .bool b' => b == b'
    | .int i, .int j => decide (i = j)
    | .str s, .str t => decide (s = t)
    | _, _ => false) = true) : Snd X xi W (.Constant v j pos) (fun env => .ok (.val (.d c.d)) env) := by
  refine Snd.of_pe rfl ?_
  have go : ∀ (u : V), PE X (.Constant v j pos) (tC u) → (∀ Hf, Den X.K X.w Hf c.d u) → PE X (.Constant v j pos) (tG X.K X.w xi W RAr (fun env => .ok (.val (.d c.d)) env)) := fun u p dn => impE p fun σ H Q q => by
    obtain ⟨Hf, env, L, s0, fin⟩ := q
    exact fin_d (M := []) fin s0.sl (Step.refl s0.sub) s0.fam (dn Hf)
  cases c <;> cases v <;> first | cases h | skip
  · exact go _ pe_non fun _ => .non
  · have e := beq_iff_eq.mp h; subst e; exact go _ pe_bl fun _ => .bl _
  · have e := of_decide_eq_true h; subst e; exact go _ pe_int fun _ => .int _
  · have e := of_decide_eq_true h; subst e; exact go _ pe_str fun _ => .str _

/-! ### the module's constants -/
structure ConstOk (X : Cx) (x : Str) (d : D) : Prop where
  ex : ∃ u v, X.mg x = some u ∧ RelV v u ∧ ∀ Hf, Den X.K X.w Hf d v
theorem snd_glob {P : Prog} {nm : Nms} {x y : Str} {pos : Pos} (n : NmOk X nm) (hc : ∀ x d, P.consts.lookup x = some d → ConstOk X x d) (h : (decide (x = y) && glB nm y && nameB y) = true) :
    Snd X xi W (.Name y pos) (fun env => Res.of ((P.consts.lookup x).map fun d => .val (.d d)) env) := by
  simp only [Bool.and_eq_true, decide_eq_true_eq] at h
  obtain ⟨⟨rfl, h2⟩, h3⟩ := h
  obtain ⟨n1, n2, _⟩ := nameB_of h3
  refine Snd.of_pe rfl ?_
  cases e : P.consts.lookup x with
  | none => exact ⟨fun pins s σ H Q I q => by obtain ⟨Hf, env, L, s0, fin⟩ := q; exact fin.elim⟩
  | some d =>
    obtain ⟨u, v, hm, r, dn⟩ := (hc x d e).ex
    refine impE (pe_glob (n.gl x h2) hm r n1) fun σ H Q q => ?_
    obtain ⟨Hf, env, L, s0, fin⟩ := q
    exact fin_d (M := []) fin s0.sl (Step.refl s0.sub) s0.fam (dn Hf)

/-! ### operators of two operands -/
/-- both operands, then what an operator asks -/
theorem two {ra rb : Env → Res Ar} {f : Ar → Ar → Env → Res Ar} {r : R2} {σ : St} {H : Hp} {Q : VK}
    (h : tG X.K X.w xi W RAr (fun env => (ra env).bind fun x env => (rb env).bind fun y env => f x y env) σ H Q)
    (op : ∀ Hf L x y env vx vy T Hf2 H2 L2, Sl env σ L2 → Step Hf H L Hf2 H2 (T ++ L2) → Fam X.K X.w Hf2 H2 (T ++ L2) →
      (∀ d, use env x = some d → View X.K X.w Hf2 H2 d vx) → (∀ d, use env y = some d → View X.K X.w Hf2 H2 d vy) → Fin X.K X.w xi W RAr σ Hf H L (f x y env) Q → r vx vy H2 Q) :
    tOp r (tG X.K X.w xi W RAr ra) (tG X.K X.w xi W RAr rb) σ H Q := by
  refine bindF (R1 := RAr) (R2 := RAr) h fun Hf L x env1 vx T1 Hf1 H1 L1 r1 sl1 st1 fam1 fin => ?_
  refine bindG (R1 := RAr) (R2 := RAr) (T := T1) st1 fam1 sl1 fin fun y env2 vy T2 Hf2 H2 L2 r2 sl2 st2 fam2 _ fin2 => ?_
  have e : T1 ++ (T2 ++ L2) = (T1 ++ T2) ++ L2 := (List.append_assoc _ _ _).symm
  rw [e] at st2 fam2
  exact op Hf L x y env2 vx vy (T1 ++ T2) Hf2 H2 L2 sl2 st2 fam2 (fun d e => use_view r1 (fun p h => List.mem_append_left _ h) sl2 fam2 e) (fun d e => use_view r2 (fun p h => List.mem_append_right _ h) sl2 fam2 e) fin2
end
end PyEv

set_option maxRecDepth 100000
set_option maxHeartbeats 2000000
/-! PyR: data as the library reads it, dicts too. -/
namespace PyEv
open PySem L2
variable [TabL]
theorem pyRL_len : ∀ {ds : List D} {ps : List PyData}, D.pyRL ds = some ps → ps.length = ds.length
  | [], ps, h => by cases h; rfl
  | d :: ds, ps, h => by
    unfold D.pyRL at h
    split at h
    · rename_i a b h1 h2
      cases h
      rw [List.length_cons, List.length_cons, pyRL_len h2]
    · cases h
section
variable {X : Cx} {pins : List (Addr × Obj)} {σ : St} {Hf H : Hp} {s : Shared}
theorem no_sys (I : Inv X pins σ H s) (hs : ∃ o, X.base.get? sysModules = some o) {a : Addr} {o : HO} (e : H a = some o) : a ≠ sysModules := fun z => by
  obtain ⟨ob, h⟩ := hs
  have := (I.bs _ _ h).2
  rw [z, this] at e
  cases e
/-- a tracked dict's entries -/
theorem pairs_reads {P : Program} {w : World} {h : Heap} : ∀ {es : List DictEntry} {vs : List (Key × Value)} {kvs : List (Key × V)} {ks : List Str}, Pairs (mixKind P w) es vs → KV kvs vs → kvs.map (·.1) = ks.map Sum.inr → ReadsAll h (es.map (·.key)) (ks.map PyData.str) [] ∧ Vals (kvs.map (·.2)) (es.map (·.val))
  | [], [], [], [], .nil, .nil, _ => ⟨.nil, .nil⟩
  | e :: es, v :: vs, kv :: kvs, k :: ks, .cons h1 h2 h3, .cons r rs, hk => by
    simp only [List.map_cons, List.cons.injEq] at hk
    obtain ⟨a, b⟩ := pairs_reads (h := h) h3 rs hk.2
    obtain ⟨e1, e2⟩ := r
    have h1 : keyIs v.1 e.key = true := h1
    rw [← e1, hk.1] at h1
    rcases keyIs_shape h1 with ⟨i, t, q, _⟩ | ⟨x, t, q, q2⟩
    · cases q
    · cases q
      refine ⟨?_, .cons (by show RelV kv.2 e.val; rw [h2]; exact e2) b⟩
      rw [List.map_cons, List.map_cons, q2]
      exact .cons (as := []) (bs := []) (.str _ t) a
  | _ :: _, _ :: _, _ :: _, [], _, _, hk => by simp at hk
  | [], [], [], _ :: _, _, _, hk => by simp at hk
theorem KL.reads {P : Params} {h : Heap} : ∀ {es : List DictEntry} {ks : List Str} {us : List V}, KL P es ks us → ReadsAll h (es.map (·.key)) (ks.map PyData.str) [] ∧ Vals us (es.map (·.val))
  | _, _, _, .nil => ⟨.nil, .nil⟩
  | _, _, _, .cons a _ c r => by
    obtain ⟨x, y⟩ := KL.reads (h := h) r
    refine ⟨?_, .cons c y⟩
    rw [List.map_cons, List.map_cons, a]
    exact .cons (as := []) (bs := []) (.str _ _) x
theorem dict_reads {h : Heap} {a : Addr} {o : Obj} {es : Array DictEntry} {n : Nat} {ks : List Str} {ps : List PyData} {bs : List Addr} (ho : h.get? a = some o) (hc : o.cls = .type "dict") (hd : o.data = .dict es n) (hk : ReadsAll h (es.toList.map (·.key)) (ks.map PyData.str) []) (hv : ReadsAll h (es.toList.map (·.val)) ps bs) (hl : ks.length = ps.length) :
    Reads h (.ref a) (.dict ((ks.map PyData.str).zip ps)) (a :: [] ++ bs) := by
  refine .dict ho hc hd ?_ ?_
  · rw [List.map_fst_zip (by simp [hl])]; exact hk
  · rw [List.map_snd_zip (by simp [hl])]; exact hv
mutual
theorem Den.reads (I : Inv X pins σ H s) (hs : ∃ o, X.base.get? sysModules = some o) (sm : Same Hf H) : ∀ {d : D} {v : V}, Den X.K X.w Hf d v → ∀ p u, d.pyR = some p → RelV v u → ∃ as, Reads s.heap u p as ∧ sysModules ∉ as
  | _, _, .non, p, u, e, r => by cases e; cases r; exact ⟨[], .none, by simp⟩
  | _, _, .bl b, p, u, e, r => by cases e; cases r; exact ⟨[], .bool b, by simp⟩
  | _, _, .int i, p, u, e, r => by cases e; obtain ⟨t, rfl⟩ := r; exact ⟨[], .int i t, by simp⟩
  | _, _, .str i, p, u, e, r => by cases e; obtain ⟨t, rfl⟩ := r; exact ⟨[], .str i t, by simp⟩
  | .tup ds, _, .tup q l, p, u, e, r => by
    cases r
    obtain ⟨its, rv, ⟨o, ho, hc, n, hd⟩, _⟩ := I.tuple (SqT.same sm q)
    have e : (D.pyRL ds).map PyData.tuple = some p := by simpa only [D.pyR] using e
    cases ep : D.pyRL ds with
    | none => rw [ep] at e; cases e
    | some ps =>
      rw [ep] at e; cases e
      obtain ⟨as, h1, h2⟩ := DenL.reads I hs sm l ps its ep rv
      exact ⟨as, .tuple ho hc hd h1, h2⟩
  | .lst ds, _, .lst q l, p, u, e, r => by
    cases r
    have q := sm _ _ q
    obtain ⟨its, rv, ⟨o, n, ho, hc, _, hd⟩, _⟩ := I.list (SqL.of q)
    have e : (D.pyRL ds).map PyData.list = some p := by simpa only [D.pyR] using e
    cases ep : D.pyRL ds with
    | none => rw [ep] at e; cases e
    | some ps =>
      rw [ep] at e; cases e
      obtain ⟨as, h1, h2⟩ := DenL.reads I hs sm l ps its ep rv
      exact ⟨_, .list ho hc hd h1, by simp [h2, Ne.symm (no_sys I hs q)]⟩
  | .dct ks ds, _, .dct q hk l, p, u, e, r => by
    cases r
    have q := sm _ _ q
    obtain ⟨_, low, vs, kv, o, es, ep, ho, ex, hd, _, prs, _⟩ := I.hok _ _ q
    obtain ⟨k1, k2⟩ := pairs_reads (h := s.heap) prs kv hk
    have e : (D.pyRL ds).map (fun ps => PyData.dict ((ks.map PyData.str).zip ps)) = some p := by simpa only [D.pyR] using e
    cases ep : D.pyRL ds with
    | none => rw [ep] at e; cases e
    | some ps =>
      rw [ep] at e; cases e
      obtain ⟨as, h1, h2⟩ := DenL.reads I hs sm l ps _ ep k2
      have ln := l.length
      have lk := congrArg List.length hk
      exact ⟨_, dict_reads ho ex.1 hd k1 h1 (by rw [pyRL_len ep, ln]; simpa using lk.symm), by simp [h2, Ne.symm (no_sys I hs q)]⟩
  | .dct ks ds, _, .kdct kd l, p, u, e, r => by
    cases r
    obtain ⟨es, n, kdd, kl⟩ := kd.ex
    obtain ⟨k1, k2⟩ := kl.reads (h := s.heap)
    have e : (D.pyRL ds).map (fun ps => PyData.dict ((ks.map PyData.str).zip ps)) = some p := by simpa only [D.pyR] using e
    cases ep : D.pyRL ds with
    | none => rw [ep] at e; cases e
    | some ps =>
      rw [ep] at e; cases e
      obtain ⟨as, h1, h2⟩ := DenL.reads I hs sm l ps _ ep k2
      have ln := l.length
      exact ⟨_, dict_reads (I.kIn _ _ kdd.at_) rfl rfl k1 h1 (by rw [pyRL_len ep, ln, kd.len]), by
        have := kdd.low
        simp only [beq_eq_false_iff_ne] at this
        simp [h2, Ne.symm this]⟩
  | _, _, .scr _, p, u, e, r => by simp [D.pyR] at e
  | _, _, .exc _ _ _ _, p, u, e, r => by simp [D.pyR] at e
theorem DenL.reads (I : Inv X pins σ H s) (hs : ∃ o, X.base.get? sysModules = some o) (sm : Same Hf H) : ∀ {ds : List D} {vs : List V}, DenL X.K X.w Hf ds vs → ∀ ps us, D.pyRL ds = some ps → Vals vs us → ∃ as, ReadsAll s.heap us ps as ∧ sysModules ∉ as
  | _, _, .nil, ps, us, e, r => by
    cases e
    cases r
    exact ⟨[], .nil, by simp⟩
  | d :: ds, _, .cons a b, ps, us, e, r => by
    unfold D.pyRL at e
    split at e
    · rename_i x y h1 h2
      cases e
      cases r with
      | cons r1 r2 =>
        obtain ⟨as, q1, q2⟩ := Den.reads I hs sm a _ _ h1 r1
        obtain ⟨bs, q3, q4⟩ := DenL.reads I hs sm b _ _ h2 r2
        exact ⟨_, .cons q1 q3, by simp [q2, q4]⟩
    · cases e
end
/-- what a slot holds, too -/
theorem View.reads (I : Inv X pins σ H s) (hs : ∃ o, X.base.get? sysModules = some o) (sm : Same Hf H) {d : D} {v : V} (h : View X.K X.w Hf H d v) {p : PyData} {u : Value} (e : d.pyR = some p) (r : RelV v u) : ∃ as, Reads s.heap u p as ∧ sysModules ∉ as := by
  cases h with
  | den h => exact h.reads I hs sm _ _ e r
  | @lst a ds vs q l =>
    cases r
    obtain ⟨its, rv, ⟨o, n, ho, hc, _, hd⟩, _⟩ := I.list (SqL.of q)
    have e : (D.pyRL ds).map PyData.list = some p := by simpa only [D.pyR] using e
    cases ep : D.pyRL ds with
    | none => rw [ep] at e; cases e
    | some ps =>
      rw [ep] at e; cases e
      obtain ⟨as, h1, h2⟩ := DenL.reads I hs sm l ps its ep rv
      exact ⟨_, .list ho hc hd h1, by simp [h2, Ne.symm (no_sys I hs q)]⟩
  | @dct a ks ds kvs q hk l =>
    cases r
    obtain ⟨_, low, vs, kv, o, es, ep, ho, ex, hd, _, prs, _⟩ := I.hok _ _ q
    obtain ⟨k1, k2⟩ := pairs_reads (h := s.heap) prs kv hk
    have e : (D.pyRL ds).map (fun ps => PyData.dict ((ks.map PyData.str).zip ps)) = some p := by simpa only [D.pyR] using e
    cases ep : D.pyRL ds with
    | none => rw [ep] at e; cases e
    | some ps =>
      rw [ep] at e; cases e
      obtain ⟨as, h1, h2⟩ := DenL.reads I hs sm l ps _ ep k2
      have ln := l.length
      have lk := congrArg List.length hk
      exact ⟨_, dict_reads ho ex.1 hd k1 h1 (by rw [pyRL_len ep, ln]; simpa using lk.symm), by simp [h2, Ne.symm (no_sys I hs q)]⟩
end
end PyEv

set_option maxRecDepth 100000
set_option maxHeartbeats 2000000
/-! PyB4: operators of two operands, comparisons. -/
namespace PyEv
open PySem L2
variable [TabL]

section
variable {K : PySem.W.Frag} {w : World} {Hf Hg H H' : Hp}
mutual
theorem Den.dp (s : Same Hf H) : ∀ {d : D} {v : V} {p : PyData}, Den K w Hf d v → d.py = some p → Dp K H v p
  | _, _, _, .non, e => by cases e; exact .non
  | _, _, _, .bl b, e => by cases e; exact .bl b
  | _, _, _, .int i, e => by cases e; exact .int i
  | _, _, _, .str x, e => by cases e; exact .str x
  | .tup ds, _, p, .tup q l, e => by
    have e' : (D.pyL ds).map PyData.tuple = some p := e
    cases h : D.pyL ds with
    | none => rw [h] at e'; cases e'
    | some ps => rw [h] at e'; cases e'; exact .tup (SqT.same s q) (DenL.dp s l h)
  | .lst ds, _, p, .lst q l, e => by
    have e' : (D.pyL ds).map PyData.list = some p := e
    cases h : D.pyL ds with
    | none => rw [h] at e'; cases e'
    | some ps => rw [h] at e'; cases e'; exact .lst (SqL.of (s _ _ q)) (DenL.dp s l h)
  | _, _, _, .dct .., e => by cases e
  | _, _, _, .kdct .., e => by cases e
  | _, _, _, .scr .., e => by cases e
theorem DenL.dp (s : Same Hf H) : ∀ {ds : List D} {vs : List V} {ps : List PyData}, DenL K w Hf ds vs → D.pyL ds = some ps → DpAll K H vs ps
  | _, _, _, .nil, e => by cases e; exact .nil
  | d :: ds, v :: vs, ps, .cons a b, e => by
    have e' : (match D.py d, D.pyL ds with | some a, some b => some (a :: b) | _, _ => none) = some ps := e
    cases h1 : D.py d with
    | none => rw [h1] at e'; cases e'
    | some p =>
      cases h2 : D.pyL ds with
      | none => rw [h1, h2] at e'; cases e'
      | some qs => rw [h1, h2] at e'; cases e'; exact .cons (Den.dp s a h1) (DenL.dp s b h2)
end
theorem View.dp {d : D} {v : V} {p : PyData} (h : View K w Hf H d v) (s : Same Hf H) (e : d.py = some p) : Dp K H v p := by
  cases h with
  | den h => exact h.dp s e
  | @lst a ds vs q l =>
    have e' : (D.pyL ds).map PyData.list = some p := e
    cases h : D.pyL ds with
    | none => rw [h] at e'; cases e'
    | some ps => rw [h] at e'; cases e'; exact .lst (SqL.of q) (l.dp s h)
  | dct => cases e
end

theorem line_eq : line = sizeLine := rfl

section
variable {X : Cx} {xi : XI} {W : WX} {lv : Nat}

theorem op_powW : OpR X (binaryOp .Pow) (rI (fun i j => 0 ≤ j ∧ (PySem.Builtin.Int.intBits i : Int) * j ≤ 2 ^ 27) fun i j => .int (i ^ j.toNat)) :=
  opI fun _ _ _ _ _ _ _ hc q => PyProof.Rows.pow_int hc.1 hc.2 q
/-- the reading of an operator, whatever its operands are -/
def rBo (K : PySem.W.Frag) : Bo → R2
  | .add => fun x y H Q => ((rI0 (fun i j => .int (i + j)) x y H Q ∨ (∃ i j, x = .str i ∧ y = .str j ∧ i.length + j.length ≤ sizeLine ∧ Q (.str (i ++ j)) H)) ∨ rCat x y H Q) ∨ rCatA K x y H Q
  | .sub => rI0 fun i j => .int (i - j)
  | .mul => rI CMulW fun i j => .int (i * j)
  | .fdv => rI CDivW fun i j => .int (i / j)
  | .mod => rI (fun _ j => 0 < j) fun i j => .int (i % j)
  | .pow => rI (fun i j => 0 ≤ j ∧ (PySem.Builtin.Int.intBits i : Int) * j ≤ 2 ^ 27) fun i j => .int (i ^ j.toNat)
theorem op_bo (o : Bo) (op : Operator) (h : boOk o op = true) : OpR X (binaryOp op) (rBo X.K o) := by
  cases o <;> cases op <;> first
    | exact absurd h (by decide)
    | exact ((op_add.or op_add_str).or op_cat).or op_catA
    | exact op_sub
    | exact op_mulW
    | exact op_fdivW
    | exact op_mod
    | exact op_powW

theorem bo_fin {o : Bo} {σ : St} {Hf H Hf1 H1 : Hp} {L M L1 : List WV} {env1 : Env} {Q : VK} {dx dy : D} {vx vy : V}
    (sl : Sl env1 σ L1) (st : Step Hf H L Hf1 H1 (M ++ L1)) (fam : Fam X.K X.w Hf1 H1 (M ++ L1)) (vwx : View X.K X.w Hf1 H1 dx vx) (vwy : View X.K X.w Hf1 H1 dy vy)
    (fin : Fin X.K X.w xi W RAr σ Hf H L (Res.of ((binF o dx dy).map .val) env1) Q) : rBo X.K o vx vy H1 Q := by
  have int : ∀ {i : Int}, Fin X.K X.w xi W RAr σ Hf H L (.ok (.val (.d (.int i))) env1) Q → Q (.int i) H1 := fun f => fin_d f sl st fam (.int _)
  cases o with
  | add =>
    cases dx <;> cases dy <;> first | exact fin.elim | skip
    · exact .inl (.inl (.inl ⟨_, _, vwx.int, vwy.int, int fin⟩))
    · rename_i a b
      by_cases hz : a.length + b.length ≤ line
      · rw [show binF .add (.str a) (.str b) = some (.d (.str (a ++ b))) from if_pos hz] at fin
        exact .inl (.inl (.inr ⟨a, b, vwx.str, vwy.str, hz, fin_d fin sl st fam (.str _)⟩))
      · rw [show binF .add (.str a) (.str b) = none from if_neg hz] at fin
        exact fin.elim
    · rename_i a b
      by_cases hz : a.length + b.length ≤ line
      · rw [show binF .add (.tup a) (.tup b) = some (.d (.tup (a ++ b))) from if_pos hz] at fin
        obtain ⟨p, xs, rfl, hp, lx⟩ := vwx.tup' st.sub
        obtain ⟨q, ys, rfl, hq, ly⟩ := vwy.tup' st.sub
        have nx : xs = [] → a = [] := fun e => by subst e; cases lx; rfl
        have ny : ys = [] → b = [] := fun e => by subst e; cases ly; rfl
        refine .inr ⟨p, q, xs, ys, rfl, rfl, hp, hq, by rw [← lx.length, ← ly.length]; exact hz, fun e => ?_, fun _ e => ?_, fun _ _ r hr => fin_tup fin sl st fam (lx.append ly) hr⟩
        · obtain rfl := nx e
          cases vwy with
          | den dn => exact fin_d fin sl st fam dn
        · obtain rfl := ny e
          rw [List.append_nil] at fin
          cases vwx with
          | den dn => exact fin_d fin sl st fam dn
      · rw [show binF .add (.tup a) (.tup b) = none from if_neg hz] at fin
        exact fin.elim
    · rename_i a b
      by_cases hz : a.length + b.length ≤ line
      · rw [show binF .add (.lst a) (.lst b) = some (.lst (a ++ b)) from if_pos hz] at fin
        obtain ⟨p, xs, rfl, hp, lx⟩ := vwx.lst' st.sub
        obtain ⟨q, ys, rfl, hq, ly⟩ := vwy.lst' st.sub
        exact .inl (.inr ⟨p, q, xs, ys, rfl, rfl, hp, hq, by rw [← lx.length, ← ly.length]; exact hz, fun r hr => fin_lst fin sl st fam (lx.append ly) hr⟩)
      · rw [show binF .add (.lst a) (.lst b) = none from if_neg hz] at fin
        exact fin.elim
  | sub => cases dx <;> cases dy <;> first | exact fin.elim | exact ⟨_, _, vwx.int, vwy.int, int fin⟩
  | mul =>
    cases dx <;> cases dy <;> first | exact fin.elim | skip
    rename_i a b
    by_cases hz : a.natAbs.log2 + b.natAbs.log2 < 1000000
    · rw [show binF .mul (.int a) (.int b) = some (.d (.int (a * b))) from if_pos hz] at fin
      exact ⟨_, _, vwx.int, vwy.int, hz, int fin⟩
    · rw [show binF .mul (.int a) (.int b) = none from if_neg hz] at fin
      exact fin.elim
  | fdv =>
    cases dx <;> cases dy <;> first | exact fin.elim | skip
    rename_i a b
    by_cases hz : 0 < b ∧ b.natAbs.log2 < 9000
    · rw [show binF .fdv (.int a) (.int b) = some (.d (.int (a / b))) from if_pos hz] at fin
      exact ⟨_, _, vwx.int, vwy.int, hz, int fin⟩
    · rw [show binF .fdv (.int a) (.int b) = none from if_neg hz] at fin
      exact fin.elim
  | mod =>
    cases dx <;> cases dy <;> first | exact fin.elim | skip
    rename_i a b
    by_cases hz : 0 < b
    · rw [show binF .mod (.int a) (.int b) = some (.d (.int (a % b))) from if_pos hz] at fin
      exact ⟨_, _, vwx.int, vwy.int, hz, int fin⟩
    · rw [show binF .mod (.int a) (.int b) = none from if_neg hz] at fin
      exact fin.elim
  | pow =>
    cases dx <;> cases dy <;> first | exact fin.elim | skip
    rename_i a b
    by_cases hz : 0 ≤ b ∧ (PySem.Builtin.Int.intBits a : Int) * b ≤ 2 ^ 27
    · rw [show binF .pow (.int a) (.int b) = some (.d (.int (a ^ b.toNat))) from if_pos hz] at fin
      exact ⟨_, _, vwx.int, vwy.int, hz, int fin⟩
    · rw [show binF .pow (.int a) (.int b) = none from if_neg hz] at fin
      exact fin.elim

theorem snd_bin {o : Bo} {op : Operator} {a b : Expr} {ra rb : Env → Res Ar} {pos : Pos} (h : boOk o op = true) (ha : Snd X xi W a ra) (hb : Snd X xi W b rb) :
    Snd X xi W (.BinOp a op b pos) (fun env => (ra env).bind fun x env => (rb env).bind fun y env => match use env x, use env y with
      | some dx, some dy => Res.of ((binF o dx dy).map .val) env
      | _, _ => .bad) := by
  refine Snd.of_pe rfl (impE (pe_op (op_bo o op h) ha.pe hb.pe) fun σ H Q q => two q fun Hf L x y env vx vy T Hf2 H2 L2 sl st fam vwx vwy fin => ?_)
  cases ex : use env x with
  | none => simp only [ex] at fin; exact fin.elim
  | some dx =>
    cases ey : use env y with
    | none => simp only [ex, ey] at fin; exact fin.elim
    | some dy =>
      simp only [ex, ey] at fin
      exact bo_fin sl st fam (vwx dx ex) (vwy dy ey) fin

/-! ### comparisons -/
def rInDT (K : PySem.W.Frag) : R2 := fun x y H Q => ∃ d ds, Dp K H x d ∧ Dp K H y (.tuple ds) ∧ SeqAt.shaped d = true ∧ SeqAt.shaped (.tuple ds) = true ∧ Q (.bl (ds.any fun z => PyData.eqv z d)) H
def rNotInDT (K : PySem.W.Frag) : R2 := fun x y H Q => ∃ d ds, Dp K H x d ∧ Dp K H y (.tuple ds) ∧ SeqAt.shaped d = true ∧ SeqAt.shaped (.tuple ds) = true ∧ Q (.bl (!ds.any fun z => PyData.eqv z d)) H
theorem room_in {A : Around} {d : PyData} {n : Nat} (h : SeqAt.shaped d = true) (hu : A.units + 65 < cLine) : A.units + 1 + min n d.depth < cLine := by
  have h1 := SeqAt.depth_of_shaped h
  have h2 : min n d.depth ≤ d.depth := Nat.min_le_right _ _
  omega
theorem op_inDT (hu : X.A.units + 65 < cLine) : OpR X (compareOp .In) (rInDT X.K) := by
  intro pins s σ H x y v u Q I rx ry h
  obtain ⟨d, ds, hd, he, sd, se, q⟩ := h
  obtain ⟨as, r1⟩ := Dp.reads I d x v hd rx
  obtain ⟨bs, r2⟩ := Dp.reads I (.tuple ds) y u he ry
  exact SeqAt.in_tuple_reads r2 r1 (SeqAt.canLay_of_shaped se) (SeqAt.canLay_of_shaped sd) (room_in sd hu) ⟨.bl _, H, I, rfl, q⟩
theorem op_notInDT (hu : X.A.units + 65 < cLine) : OpR X (compareOp .NotIn) (rNotInDT X.K) := by
  intro pins s σ H x y v u Q I rx ry h
  obtain ⟨d, ds, hd, he, sd, se, q⟩ := h
  obtain ⟨as, r1⟩ := Dp.reads I d x v hd rx
  obtain ⟨bs, r2⟩ := Dp.reads I (.tuple ds) y u he ry
  exact SeqAt.notIn_tuple_reads r2 r1 (SeqAt.canLay_of_shaped se) (SeqAt.canLay_of_shaped sd) (room_in sd hu) ⟨.bl _, H, I, rfl, q⟩
/-- a text in a dict -/
def rInD1 : R2 := fun x y H Q => ∃ a z o, x = .str z ∧ y = .ref a ∧ DGet H a x o ∧ Q (.bl o.isSome) H
def rNotInD1 : R2 := fun x y H Q => ∃ a z o, x = .str z ∧ y = .ref a ∧ DGet H a x o ∧ Q (.bl (!o.isSome)) H
theorem op_inD1 (hu : X.A.units + 1 < cLine) : OpR X (compareOp .In) rInD1 := by
  intro pins s σ H x y v u Q I rx ry h
  obtain ⟨a, z, o, rfl, rfl, g, q⟩ := h
  obtain rfl : u = Value.ref a := ry
  exact d_in hu I g rx fun s' I' => ⟨.bl _, H, I', rfl, q⟩
theorem op_notInD1 (hu : X.A.units + 1 < cLine) : OpR X (compareOp .NotIn) rNotInD1 := by
  intro pins s σ H x y v u Q I rx ry h
  obtain ⟨a, z, o, rfl, rfl, g, q⟩ := h
  obtain rfl : u = Value.ref a := ry
  exact d_notIn hu I g rx fun s' I' => ⟨.bl _, H, I', rfl, q⟩
/-- a text in a written dict -/
def rInK (K : PySem.W.Frag) (w : World) : R2 := fun x y H Q => ∃ a z es n r, x = .str z ∧ y = .ref a ∧ KDict K w a es n ∧ PySem.W.nsIn K a z = some r ∧ Q (.bl r.isSome) H
def rNotInK (K : PySem.W.Frag) (w : World) : R2 := fun x y H Q => ∃ a z es n r, x = .str z ∧ y = .ref a ∧ KDict K w a es n ∧ PySem.W.nsIn K a z = some r ∧ Q (.bl (!r.isSome)) H
theorem op_inK : OpR X (compareOp .In) (rInK X.K X.w) := by
  intro pins s σ H x y v u Q I rx ry h
  obtain ⟨a, z, es, n, r, rfl, rfl, kd, e, q⟩ := h
  exact op_in_kd kd pins s σ H _ _ v u Q I rx ry ⟨z, r, rfl, rfl, e, q⟩
theorem op_notInK : OpR X (compareOp .NotIn) (rNotInK X.K X.w) := by
  intro pins s σ H x y v u Q I rx ry h
  obtain ⟨a, z, es, n, r, rfl, rfl, kd, e, q⟩ := h
  exact op_notIn_kd kd pins s σ H _ _ v u Q I rx ry ⟨z, r, rfl, rfl, e, q⟩

def rCo (K : PySem.W.Frag) (w : World) : Co → R2
  | .eq => fun x y H Q => rEq x y H Q ∨ rEqD K x y H Q
  | .ne => fun x y H Q => rNe x y H Q ∨ rNeD K x y H Q
  | .lt => rI0 fun i j => .bl (decide (i < j))
  | .le => rI0 fun i j => .bl (decide (i ≤ j))
  | .gt => rI0 fun i j => .bl (decide (j < i))
  | .ge => rI0 fun i j => .bl (decide (j ≤ i))
  | .isN => fun x y H Q => y = .non ∧ Q (.bl (decide (x = .non))) H
  | .notN => fun x y H Q => y = .non ∧ Q (.bl (!decide (x = .non))) H
  | .isin => fun x y H Q => ((((∃ i j, x = .str i ∧ y = .str j ∧ Q (.bl (!(Builtin.Str.occurrences j i 0 j.length 1).isEmpty)) H) ∨ rInD K x y H Q) ∨ rInDT K x y H Q) ∨ rInD1 x y H Q) ∨ rInK K w x y H Q
  | .notin => fun x y H Q => ((((∃ i j, x = .str i ∧ y = .str j ∧ Q (.bl (!(!(Builtin.Str.occurrences j i 0 j.length 1).isEmpty))) H) ∨ rNotInD K x y H Q) ∨ rNotInDT K x y H Q) ∨ rNotInD1 x y H Q) ∨ rNotInK K w x y H Q
theorem op_co (c : CxOk X lv) (o : Co) (op : CmpOp) (h : coOk o op = true) : OpR X (compareOp op) (rCo X.K X.w o) := by
  have u := c.room.units
  have u2 : X.A.units + 65 < cLine := by have := c.room.un; omega
  have u1 : X.A.units + 1 < cLine := by omega
  cases o <;> cases op <;> first
    | exact absurd h (by decide)
    | exact op_eq.or (op_eqD u)
    | exact op_ne.or (op_neD u)
    | exact op_lt
    | exact op_le
    | exact op_gt
    | exact op_ge
    | exact op_isN
    | exact op_notN
    | exact (((op_in_str.or (op_inD u2)).or (op_inDT u2)).or (op_inD1 u1)).or op_inK
    | exact (((op_notIn_str.or (op_notInD u2)).or (op_notInDT u2)).or (op_notInD1 u1)).or op_notInK

theorem View.isN {Hf H : Hp} {d : D} {v : V} (h : View X.K X.w Hf H d v) : decide (v = .non) = d.isNon := by
  cases h with
  | den h => cases h <;> first | rfl | exact decide_eq_false (by intro z; cases z)
  | lst => exact decide_eq_false (by intro z; cases z)
  | dct => exact decide_eq_false (by intro z; cases z)

theorem eq_fin {Hf H : Hp} {Q : VK} {a b : D} {x y : V} {k : Bool} (s : Same Hf H) (vx : View X.K X.w Hf H a x) (vy : View X.K X.w Hf H b y) (e : eqF a b = some k) :
    (Q (.bl k) H → rCo X.K X.w .eq x y H Q) ∧ (Q (.bl (!k)) H → rCo X.K X.w .ne x y H Q) := by
  have gen : (match a.py, b.py with | some p, some q => if PySem.SeqAt.shaped p && PySem.SeqAt.shaped q then some (PyData.eqv p q) else none | _, _ => none) = some k →
      (Q (.bl k) H → rCo X.K X.w .eq x y H Q) ∧ (Q (.bl (!k)) H → rCo X.K X.w .ne x y H Q) := fun e => by
    cases ha : a.py with
    | none => rw [ha] at e; cases e
    | some p =>
      cases hb : b.py with
      | none => rw [ha, hb] at e; cases e
      | some q =>
        simp only [ha, hb] at e
        by_cases hs : (PySem.SeqAt.shaped p && PySem.SeqAt.shaped q) = true
        · rw [if_pos hs] at e
          obtain ⟨s1, s2⟩ := Bool.and_eq_true_iff.mp hs
          obtain rfl := Option.some.inj e
          exact ⟨fun h => .inr ⟨p, q, vx.dp s ha, vy.dp s hb, s1, s2, h⟩, fun h => .inr ⟨p, q, vx.dp s ha, vy.dp s hb, s1, s2, h⟩⟩
        · rw [if_neg hs] at e; cases e
  unfold eqF at e
  split at e
  · rename_i s1 s2
    obtain rfl := Option.some.inj e
    obtain rfl := vx.str
    obtain rfl := vy.str
    have q : decide (V.str s1 = V.str s2) = decide (s1 = s2) := decide_eq_decide.mpr ⟨fun h => by injection h, fun h => by rw [h]⟩
    exact ⟨fun h => .inl ⟨rfl, by rw [q]; exact h⟩, fun h => .inl ⟨rfl, by rw [q]; exact h⟩⟩
  · rename_i s1 s2
    obtain rfl := Option.some.inj e
    obtain rfl := vx.int
    obtain rfl := vy.int
    have q : decide (V.int s1 = V.int s2) = decide (s1 = s2) := decide_eq_decide.mpr ⟨fun h => by injection h, fun h => by rw [h]⟩
    exact ⟨fun h => .inl ⟨rfl, by rw [q]; exact h⟩, fun h => .inl ⟨rfl, by rw [q]; exact h⟩⟩
  · exact gen e

theorem kvs_look : ∀ {ks : List Str} {kvs : List (Key × V)} {x : Str}, kvs.map (·.1) = ks.map Sum.inr → valV kvs (Sum.inr x) = (ks.zip (kvs.map (·.2))).lookup x
  | [], [], x, _ => rfl
  | [], _ :: _, x, h => by simp at h
  | _ :: _, [], x, h => by simp at h
  | k :: ks, (k', v) :: kvs, x, h => by
    have h' := List.cons.inj (show k' :: kvs.map (·.1) = Sum.inr k :: ks.map Sum.inr from h)
    obtain ⟨rfl, h2⟩ := h'
    have ih := kvs_look (x := x) h2
    show valV ((Sum.inr k, v) :: kvs) (Sum.inr x) = ((k, v) :: ks.zip (kvs.map (·.2))).lookup x
    rw [List.lookup_cons, ← ih]
    by_cases e : x = k
    · subst e
      simp [valV]
    · have e1 : (x == k) = false := by simpa using e
      have e2 : ¬ (k = x) := fun z => e z.symm
      simp [valV, e1, e2]
theorem look_some : ∀ {α : Type} {ks : List Str} {us : List α} {x : Str}, ks.length = us.length → ((ks.zip us).lookup x).isSome = ks.contains x
  | _, [], [], x, _ => rfl
  | _, [], _ :: _, x, h => by simp at h
  | _, _ :: _, [], x, h => by simp at h
  | _, k :: ks, u :: us, x, h => by
    rw [List.zip_cons_cons, List.lookup_cons, List.contains_cons]
    cases e : x == k
    · exact look_some (by simpa using h)
    · rfl

theorem in_fin {Hf H : Hp} {Q : VK} {a b : D} {x y : V} {k : Bool} (s : Same Hf H) (vx : View X.K X.w Hf H a x) (vy : View X.K X.w Hf H b y) (e : isinF a b = some k) :
    (Q (.bl k) H → rCo X.K X.w .isin x y H Q) ∧ (Q (.bl (!k)) H → rCo X.K X.w .notin x y H Q) := by
  have gen : ∀ (ys : List D) (mk : List PyData → PyData), (match a.py, D.pyL ys with | some p, some qs => if PySem.SeqAt.shaped p && PySem.SeqAt.shaped (mk qs) then some (qs.any fun z => PyData.eqv z p) else none | _, _ => none) = some k →
      ∃ p qs, a.py = some p ∧ D.pyL ys = some qs ∧ SeqAt.shaped p = true ∧ SeqAt.shaped (mk qs) = true ∧ k = qs.any fun z => PyData.eqv z p := fun ys mk e => by
    cases ha : a.py with
    | none => rw [ha] at e; cases e
    | some p =>
      cases hb : D.pyL ys with
      | none => rw [ha, hb] at e; cases e
      | some q =>
        simp only [ha, hb] at e
        by_cases hs : (PySem.SeqAt.shaped p && PySem.SeqAt.shaped (mk q)) = true
        · rw [if_pos hs] at e
          obtain ⟨s1, s2⟩ := Bool.and_eq_true_iff.mp hs
          exact ⟨p, q, rfl, rfl, s1, s2, (Option.some.inj e).symm⟩
        · rw [if_neg hs] at e; cases e
  unfold isinF at e
  split at e
  · rename_i s1 s2
    obtain rfl := Option.some.inj e
    exact ⟨fun h => .inl (.inl (.inl (.inl ⟨s1, s2, vx.str, vy.str, h⟩))), fun h => .inl (.inl (.inl (.inl ⟨s1, s2, vx.str, vy.str, h⟩)))⟩
  · rename_i z ks us
    obtain rfl := Option.some.inj e
    obtain rfl := vx.str
    have trk : ∀ (a : Addr) (kvs : List (Key × V)), y = .ref a → H a = some (.dK kvs) → kvs.map (·.1) = ks.map Sum.inr → (Q (.bl (ks.contains z)) H → rCo X.K X.w .isin (.str z) y H Q) ∧ (Q (.bl (!ks.contains z)) H → rCo X.K X.w .notin (.str z) y H Q) := fun a kvs ey hh hk => by
      subst ey
      have g : DGet H a (.str z) (valV kvs (Sum.inr z)) := DGet.k (k := Sum.inr z) hh
      have e2 : (valV kvs (Sum.inr z)).isSome = ks.contains z := by
        rw [kvs_look hk]
        have hl : ks.length = (kvs.map (·.2)).length := by
          have := congrArg List.length hk
          simpa using this.symm
        exact look_some hl
      exact ⟨fun h => .inl (.inr ⟨a, z, _, rfl, rfl, g, by rw [e2]; exact h⟩), fun h => .inl (.inr ⟨a, z, _, rfl, rfl, g, by rw [e2]; exact h⟩)⟩
    cases vy with
    | den dn =>
      cases dn with
      | dct hh hk _ => exact trk _ _ rfl (s _ _ hh) hk
      | @kdct a ks' ds us' kd l =>
        obtain ⟨es, n, kdd, _⟩ := kd.ex
        have e2 := look_some (x := z) kd.len
        cases hl : (ks.zip us').lookup z with
        | none =>
          rw [hl] at e2
          have hn := kd.no z hl
          exact ⟨fun h => .inr ⟨a, z, es, n, _, rfl, rfl, kdd, hn, by rw [← e2] at h; exact h⟩, fun h => .inr ⟨a, z, es, n, _, rfl, rfl, kdd, hn, by rw [← e2] at h; exact h⟩⟩
        | some v =>
          rw [hl] at e2
          obtain ⟨u, hu, _⟩ := kd.yes z v hl
          exact ⟨fun h => .inr ⟨a, z, es, n, _, rfl, rfl, kdd, hu, by rw [← e2] at h; exact h⟩, fun h => .inr ⟨a, z, es, n, _, rfl, rfl, kdd, hu, by rw [← e2] at h; exact h⟩⟩
    | dct hh hk _ => exact trk _ _ rfl hh hk
  · rename_i ys
    obtain ⟨p, qs, ha, hb, s1, s2, rfl⟩ := gen ys .tuple e
    have e2 : (D.tup ys).py = some (.tuple qs) := by show (D.pyL ys).map PyData.tuple = _; rw [hb]; rfl
    exact ⟨fun h => .inl (.inl (.inr ⟨p, qs, vx.dp s ha, vy.dp s e2, s1, s2, h⟩)), fun h => .inl (.inl (.inr ⟨p, qs, vx.dp s ha, vy.dp s e2, s1, s2, h⟩))⟩
  · rename_i ys
    obtain ⟨p, qs, ha, hb, s1, s2, rfl⟩ := gen ys .list e
    have e2 : (D.lst ys).py = some (.list qs) := by show (D.pyL ys).map PyData.list = _; rw [hb]; rfl
    exact ⟨fun h => .inl (.inl (.inl (.inr ⟨p, qs, vx.dp s ha, vy.dp s e2, s1, s2, h⟩))), fun h => .inl (.inl (.inl (.inr ⟨p, qs, vx.dp s ha, vy.dp s e2, s1, s2, h⟩)))⟩
  · cases e

theorem co_fin {o : Co} {Hf H : Hp} {Q : VK} {a b : D} {x y : V} {k : Bool} (s : Same Hf H) (vx : View X.K X.w Hf H a x) (vy : View X.K X.w Hf H b y) (e : cmpF o a b = some k) (q : Q (.bl k) H) : rCo X.K X.w o x y H Q := by
  cases o with
  | eq => exact (eq_fin s vx vy e).1 q
  | ne =>
    cases h : eqF a b with
    | none => rw [show cmpF .ne a b = (eqF a b).map (!·) from rfl, h] at e; cases e
    | some j =>
      rw [show cmpF .ne a b = (eqF a b).map (!·) from rfl, h] at e
      obtain rfl := Option.some.inj e
      exact (eq_fin s vx vy h).2 q
  | isin => exact (in_fin s vx vy e).1 q
  | notin =>
    cases h : isinF a b with
    | none => rw [show cmpF .notin a b = (isinF a b).map (!·) from rfl, h] at e; cases e
    | some j =>
      rw [show cmpF .notin a b = (isinF a b).map (!·) from rfl, h] at e
      obtain rfl := Option.some.inj e
      exact (in_fin s vx vy h).2 q
  | lt => cases a <;> cases b <;> first | (cases e; done) | (obtain rfl := Option.some.inj e; exact ⟨_, _, vx.int, vy.int, q⟩)
  | le => cases a <;> cases b <;> first | (cases e; done) | (obtain rfl := Option.some.inj e; exact ⟨_, _, vx.int, vy.int, q⟩)
  | gt => cases a <;> cases b <;> first | (cases e; done) | (obtain rfl := Option.some.inj e; exact ⟨_, _, vx.int, vy.int, q⟩)
  | ge => cases a <;> cases b <;> first | (cases e; done) | (obtain rfl := Option.some.inj e; exact ⟨_, _, vx.int, vy.int, q⟩)
  | isN =>
    cases b <;> first | (cases a <;> (cases e; done)) | skip
    obtain rfl : a.isNon = k := by cases a <;> exact Option.some.inj e
    exact ⟨vy.non, by rw [vx.isN]; exact q⟩
  | notN =>
    cases b <;> first | (cases a <;> (cases e; done)) | skip
    obtain rfl : (!a.isNon) = k := by cases a <;> exact Option.some.inj e
    exact ⟨vy.non, by rw [vx.isN]; exact q⟩

theorem fin_bl {σ : St} {Hf H Hf1 H1 : Hp} {L M L1 : List WV} {env1 : Env} {Q : VK} {k : Bool} (fin : Fin X.K X.w xi W RAr σ Hf H L (.ok (.val (.d (.bl k))) env1) Q) (sl : Sl env1 σ L1) (st : Step Hf H L Hf1 H1 (M ++ L1))
    (fam : Fam X.K X.w Hf1 H1 (M ++ L1)) : Q (.bl k) H1 := fin_d fin sl st fam (.bl k)

theorem cmp_two {o : Co} {ra rb : Env → Res Ar} {σ : St} {H : Hp} {Q : VK}
    (q : tG X.K X.w xi W RAr (fun env => (ra env).bind fun x env => (rb env).bind fun y env => match use env x, use env y with
      | some dx, some dy => Res.of ((cmpF o dx dy).map fun b => .val (.d (.bl b))) env
      | _, _ => .bad) σ H Q) : tOp (rCo X.K X.w o) (tG X.K X.w xi W RAr ra) (tG X.K X.w xi W RAr rb) σ H Q := by
  refine two q fun Hf L x y env vx vy T Hf2 H2 L2 sl st fam vwx vwy fin => ?_
  cases ex : use env x with
  | none => simp only [ex] at fin; exact fin.elim
  | some dx =>
    cases ey : use env y with
    | none => simp only [ex, ey] at fin; exact fin.elim
    | some dy =>
      simp only [ex, ey] at fin
      cases ec : cmpF o dx dy with
      | none => rw [ec] at fin; exact fin.elim
      | some k =>
        rw [ec] at fin
        exact co_fin st.sub (vwx dx ex) (vwy dy ey) ec (fin_bl fin sl st fam)
/-- a bool test from the value -/
theorem tB_of {r : Env → Res Ar} {σ : St} {H : Hp} {Q : Bool → Hp → Prop} (q : tG X.K X.w xi W RB (fun env => useB (r env)) σ H Q) : tB (tG X.K X.w xi W RAr r) σ H Q := by
  refine bindF (R1 := RAr) (R2 := RB) (r := r) q fun Hf L a env2 b T2 Hf2 H2 L2 h1 h2 h3 h4 fin => ?_
  have fin' : Fin X.K X.w xi W RB σ Hf H L ((match use env2 a with | some (.bl b) => (Res.ok b env2 : Res Bool) | _ => .bad).bind fun b env => .ok b env) Q := by
    cases e : use env2 a with
    | none => rw [e] at fin; exact fin.elim
    | some d => cases d <;> (rw [e] at fin; exact fin)
  obtain ⟨k, e1, e2, fin⟩ := useB_fin h1 h2 h4 fin'
  exact ⟨k, e2, fin k [] Hf2 H2 L2 ⟨rfl, rfl⟩ h2 (h3.less fun b q => Owned.append.mpr (.inr q)) (h4.sub (List.sublist_append_right _ _))⟩
theorem snd_cmp (c : CxOk X lv) {o : Co} {op : CmpOp} {a b : Expr} {ra rb : Env → Res Ar} {pos : Pos} (h : coOk o op = true) (hb' : notSet b = true) (ha : Snd X xi W a ra) (hb : Snd X xi W b rb) :
    Snd X xi W (.Compare a [op] [b] pos) (fun env => (ra env).bind fun x env => (rb env).bind fun y env => match use env x, use env y with
      | some dx, some dy => Res.of ((cmpF o dx dy).map fun b => .val (.d (.bl b))) env
      | _, _ => .bad) :=
  ⟨impE (pe_cmpR (op_co c o op h) ha.pe hb.pe (nomark_of hb' op)) fun σ H Q q => cmp_two q,
   impT (pt_cmpR (op_co c o op h) ha.pe hb.pe (nomark_of hb' op)) fun σ H Q q => by
    have q' := tB_of q
    obtain ⟨Hf, env, L, s0, fin⟩ := q'
    exact cmp_two ⟨Hf, env, L, s0, fin⟩⟩
end
end PyEv

set_option maxRecDepth 100000
set_option maxHeartbeats 2000000
/-! PyB5: items, displays, argument lists, chains, and, or, not. -/
namespace PyEv
open PySem L2
variable [TabL]

section
variable {X : Cx} {xi : XI} {W : WX} {lv : Nat}

theorem item_noexc {a : Ar} {env e2 : Env} {x : D} (e : item a env = .exc x e2) : False := by
  unfold item at e
  split at e
  · split at e <;> cases e
  · cases e
/-- an operand taken for good -/
theorem item_ok {K : PySem.W.Frag} {w : World} {a : Ar} {v : V} {T M L L0 : List WV} {σ : St} {Hx Hf H Hf1 H1 : Hp} {env env2 : Env} {d : D} (r : RAr σ Hx a v T) (sl : Sl env σ L) (st : Step Hf H L0 Hf1 H1 (M ++ (T ++ L))) (fam : Fam K w Hf1 H1 (M ++ (T ++ L)))
    (e : item a env = .ok d env2) : ∃ Hf2 L2, Den K w Hf2 d v ∧ Sl env2 σ L2 ∧ Step Hf H L0 Hf2 H1 (M ++ L2) ∧ Fam K w Hf2 H1 (M ++ L2) := by
  have fr : ∀ (x : W) (N : List WV), (M ++ (T ++ L)).Perm ((x, v) :: N) → ∃ Hf2, Den K w Hf2 x.frz v ∧ Step Hf H L0 Hf2 H1 N ∧ Fam K w Hf2 H1 N := fun x N p => by
    obtain ⟨Hg, h1, h2, h3⟩ := freeze st.sub (fam.perm p)
    exact ⟨Hg, h1, (st.less (M' := (x, v) :: N) fun b q => (Owned.perm p).mpr q).tr h2, h3⟩
  cases r with
  | @vr _ _ i _ hi =>
    rw [List.nil_append] at st fam
    have e' : (match slot env i with | some (.d x) => .ok x env | some w => .ok w.frz (env.set i (some (.d w.frz))) | none => .bad : Res D) = .ok d env2 := e
    cases es : slot env i with
    | none => rw [es] at e'; cases e'
    | some x =>
      rw [es] at e'
      obtain ⟨u, N, h1, h2, p⟩ := sl.out es
      rw [hi] at h1; cases h1
      have own : ∀ y, x = y → y.frz = d → env.set i (some (.d y.frz)) = env2 → ∃ Hf2 L2, Den K w Hf2 d v ∧ Sl env2 σ L2 ∧ Step Hf H L0 Hf2 H1 (M ++ L2) ∧ Fam K w Hf2 H1 (M ++ L2) := fun y ey ed ee => by
        subst ey
        obtain ⟨Hf2, g1, g2, g3⟩ := fr x (M ++ N) ((List.perm_append_left_iff M |>.mpr p).trans List.perm_middle)
        obtain ⟨L2, s2, p2⟩ := h2.into (x := .d x.frz) hi
        refine ⟨Hf2, L2, ed ▸ g1, ee ▸ s2, g2.less fun b q => ?_, ((g3.cons_d g1).perm (List.perm_middle.symm.trans (List.perm_append_left_iff M |>.mpr p2.symm)))⟩
        rcases Owned.append.mp q with q | q
        · exact Owned.append.mpr (.inl q)
        · rcases Owned.cons.mp ((Owned.perm p2).mp q) with q | q
          · cases q
          · exact Owned.append.mpr (.inr q)
      cases x with
      | d y =>
        have e2 : (Res.ok y env : Res D) = .ok d env2 := e'
        cases e2
        have dn : Den K w Hf1 d v := by
          have := fam.rep (.d d, v) (List.mem_append_right _ (p.mem_iff.mpr List.mem_cons_self))
          cases this with
          | d h => exact h
        exact ⟨Hf1, L, dn, sl, st, fam⟩
      | lst ys =>
        have e2 : (Res.ok (PyEv.W.lst ys).frz (env.set i (some (.d (PyEv.W.lst ys).frz))) : Res D) = .ok d env2 := e'
        injection e2 with e3 e4
        exact own _ rfl e3 e4
      | dct ks ys =>
        have e2 : (Res.ok (PyEv.W.dct ks ys).frz (env.set i (some (.d (PyEv.W.dct ks ys).frz))) : Res D) = .ok d env2 := e'
        injection e2 with e3 e4
        exact own _ rfl e3 e4
  | @val _ _ x _ =>
    have e' : (Res.ok x.frz env : Res D) = .ok d env2 := e
    injection e' with e1 e2
    subst e1 e2
    obtain ⟨Hf2, g1, g2, g3⟩ := fr x (M ++ L) List.perm_middle
    exact ⟨Hf2, L, g1, sl, g2, g3⟩
/-- .. in a run -/
theorem item_fin {γ δ : Type} {K : PySem.W.Frag} {w : World} {R2 : RR γ δ} {f : D → Env → Res γ} {a : Ar} {v : V} {T M L L0 : List WV} {σ : St} {Hx Hf H Hf1 H1 : Hp} {env : Env} {Q : δ → Hp → Prop} (r : RAr σ Hx a v T) (sl : Sl env σ L)
    (st : Step Hf H L0 Hf1 H1 (M ++ (T ++ L))) (fam : Fam K w Hf1 H1 (M ++ (T ++ L))) (fin : Fin K w xi W R2 σ Hf H L0 ((item a env).bind f) Q) :
    ∃ d env2 Hf2 L2, Den K w Hf2 d v ∧ Sl env2 σ L2 ∧ Step Hf H L0 Hf2 H1 (M ++ L2) ∧ Fam K w Hf2 H1 (M ++ L2) ∧ Fin K w xi W R2 σ Hf H L0 (f d env2) Q := by
  cases e : item a env with
  | bad => rw [e] at fin; exact fin.elim
  | exc x e2 => exact (item_noexc e).elim
  | ok d env2 =>
    rw [e] at fin
    obtain ⟨Hf2, L2, h1, h2, h3, h4⟩ := item_ok r sl st fam e
    exact ⟨d, env2, Hf2, L2, h1, h2, h3, h4, fin⟩

/-! ### items -/
abbrev SndIts (X : Cx) (xi : XI) (W : WX) (xs : List Expr) (r : Env → Res (List D)) : Prop := PA X xs (tG X.K X.w xi W (RDs X.K X.w) r)
theorem its_nil : SndIts X xi W [] (fun env => .ok [] env) := impA pa_nil fun σ H Q q => by
  obtain ⟨Hf, env, L, s0, fin⟩ := q
  exact fin [] [] Hf H L ⟨.nil, rfl⟩ s0.sl (Step.refl s0.sub) s0.fam
theorem its_cons {x : Expr} {xs : List Expr} {ra : Env → Res Ar} {rs : Env → Res (List D)} (hp : plainX x = true) (ha : PE X x (tG X.K X.w xi W RAr ra)) (hs : SndIts X xi W xs rs) :
    SndIts X xi W (x :: xs) (fun env => (ra env).bind fun a env => (item a env).bind fun d env => (rs env).bind fun ds env => .ok (d :: ds) env) := impA (pa_cons ha hs (starEach_plain hp)) fun σ H Q q => by
  refine bindF (R1 := RAr) (R2 := RDs X.K X.w) q fun Hf L a env1 v T1 Hf1 H1 L1 r1 sl1 st1 fam1 fin => ?_
  obtain ⟨d, env2, Hf2, L2, dn, sl2, st2, fam2, fin2⟩ := item_fin (M := []) r1 sl1 st1 fam1 fin
  refine bindG (R1 := RDs X.K X.w) (R2 := RDs X.K X.w) (T := []) st2 fam2 sl2 fin2 fun ds env3 vs T3 Hf3 H3 L3 r3 sl3 st3 fam3 st23 fin3 => ?_
  obtain ⟨dns, rfl⟩ := r3
  exact fin3 (v :: vs) [] Hf3 H3 L3 ⟨.cons (dn.mono st23.subf) dns, rfl⟩ sl3 st3 fam3
theorem its_star {x : Expr} {xs : List Expr} {ra : Env → Res Ar} {rs : Env → Res (List D)} {p : Pos} (ha : PE X x (tG X.K X.w xi W RAr ra)) (hs : SndIts X xi W xs rs) :
    SndIts X xi W (.Starred x p :: xs) (fun env => (ra env).bind fun a env => (item a env).bind fun d env => match d with
      | .lst ys => (rs env).bind fun ds env => .ok (ys ++ ds) env
      | .tup ys => (rs env).bind fun ds env => .ok (ys ++ ds) env
      | _ => .bad) := impA (StX.pa_star ha hs) fun σ H Q q => by
  refine bindF (R1 := RAr) (R2 := RDs X.K X.w) q fun Hf L a env1 v T1 Hf1 H1 L1 r1 sl1 st1 fam1 fin => ?_
  obtain ⟨d, env2, Hf2, L2, dn, sl2, st2, fam2, fin2⟩ := item_fin (M := []) r1 sl1 st1 fam1 fin
  have rest : ∀ (ys : List D) (p : Addr) (vs : List V), v = .ref p → (SqT X.K H1 p vs ∨ SqL X.K H1 p vs) → DenL X.K X.w Hf2 ys vs → Fin X.K X.w xi W (RDs X.K X.w) σ Hf H L ((rs env2).bind fun ds env => .ok (ys ++ ds) env) Q →
      ∃ p xs, v = V.ref p ∧ (SqT X.K H1 p xs ∨ SqL X.K H1 p xs) ∧ tG X.K X.w xi W (RDs X.K X.w) rs σ H1 fun ys H2 => Q (xs ++ ys) H2 := fun ys p vs ev hq dn2 fin2 => by
    refine ⟨p, vs, ev, hq, ?_⟩
    refine bindG (R1 := RDs X.K X.w) (R2 := RDs X.K X.w) (T := []) st2 fam2 sl2 fin2 fun ds env3 us T3 Hf3 H3 L3 r3 sl3 st3 fam3 st23 fin3 => ?_
    obtain ⟨dns, rfl⟩ := r3
    exact fin3 (vs ++ us) [] Hf3 H3 L3 ⟨(dn2.mono st23.subf).append dns, rfl⟩ sl3 st3 fam3
  cases dn with
  | tup hq l => exact rest _ _ _ rfl (.inl (SqT.same st2.sub hq)) l fin2
  | lst hq l => exact rest _ _ _ rfl (.inr (SqL.of (st2.sub _ _ hq))) l fin2
  | _ => exact fin2.elim

theorem snd_tup {xs : List Expr} {rs : Env → Res (List D)} {k : Nat} {pos : Pos} (hs : SndIts X xi W xs rs) :
    Snd X xi W (.Tuple xs k pos) (fun env => (rs env).bind fun ds env => if ds.length ≤ line then .ok (.val (.d (.tup ds))) env else .bad) := by
  refine Snd.of_pe rfl (impE (pe_tup hs) fun σ H Q q => ?_)
  refine bindF (R1 := RDs X.K X.w) (R2 := RAr) q fun Hf L ds env1 vs T1 Hf1 H1 L1 r1 sl1 st1 fam1 fin => ?_
  obtain ⟨dn, rfl⟩ := r1
  by_cases hz : ds.length ≤ line
  · rw [if_pos hz] at fin
    exact ⟨by rw [← dn.length]; exact hz, fun p hp => fin_tup (M := []) fin sl1 st1 fam1 dn hp⟩
  · rw [if_neg hz] at fin; exact fin.elim
theorem snd_lst {xs : List Expr} {rs : Env → Res (List D)} {pos : Pos} (hs : SndIts X xi W xs rs) :
    Snd X xi W (.List xs pos) (fun env => (rs env).bind fun ds env => if ds.length ≤ line then .ok (.val (.lst ds)) env else .bad) := by
  refine Snd.of_pe rfl (impE (pe_lst hs) fun σ H Q q => ?_)
  refine bindF (R1 := RDs X.K X.w) (R2 := RAr) q fun Hf L ds env1 vs T1 Hf1 H1 L1 r1 sl1 st1 fam1 fin => ?_
  obtain ⟨dn, rfl⟩ := r1
  by_cases hz : ds.length ≤ line
  · rw [if_pos hz] at fin
    exact ⟨by rw [← dn.length]; exact hz, fun p hp => fin_lst (M := []) fin sl1 st1 fam1 dn hp⟩
  · rw [if_neg hz] at fin; exact fin.elim

/-! ### arguments -/
abbrev SndAs (X : Cx) (xi : XI) (W : WX) (xs : List Expr) (r : Env → Res (List Ar)) : Prop := PA X xs (tG X.K X.w xi W RArs r)
theorem as_nil : SndAs X xi W [] (fun env => .ok [] env) := impA pa_nil fun σ H Q q => by
  obtain ⟨Hf, env, L, s0, fin⟩ := q
  exact fin [] [] Hf H L .nil s0.sl (Step.refl s0.sub) s0.fam
theorem as_cons {x : Expr} {xs : List Expr} {ra : Env → Res Ar} {rs : Env → Res (List Ar)} (hp : plainX x = true) (ha : PE X x (tG X.K X.w xi W RAr ra)) (hs : SndAs X xi W xs rs) :
    SndAs X xi W (x :: xs) (fun env => (ra env).bind fun a env => (rs env).bind fun as env => .ok (a :: as) env) := impA (pa_cons ha hs (starEach_plain hp)) fun σ H Q q => by
  refine bindF (R1 := RAr) (R2 := RArs) q fun Hf L a env1 v T1 Hf1 H1 L1 r1 sl1 st1 fam1 fin => ?_
  refine bindG (R1 := RArs) (R2 := RArs) st1 fam1 sl1 fin fun as env2 vs T2 Hf2 H2 L2 r2 sl2 st2 fam2 _ fin2 => ?_
  rw [← List.append_assoc] at st2 fam2
  exact fin2 (v :: vs) (T1 ++ T2) Hf2 H2 L2 (.cons r1 r2) sl2 st2 fam2
theorem use_all {K : PySem.W.Frag} {w : World} {σ : St} {Hx Hf H : Hp} {env : Env} {L : List WV} (sl : Sl env σ L) : ∀ {as : List Ar} {vs : List V} {T T' : List WV} {ds : List D}, RArs σ Hx as vs T → (∀ p ∈ T, p ∈ T') → Fam K w Hf H (T' ++ L) → useAll env as = some ds →
    Paired (fun d v => View K w Hf H d v) ds vs
  | [], _, _, _, ds, .nil, _, _, e => by
    have e' : (some [] : Option (List D)) = some ds := e
    cases e'; exact .nil
  | a :: as, _, _, T', ds, .cons (T := T1) (Ts := T2) r rs, ht, fam, e => by
    have e' : (match use env a, useAll env as with | some x, some xs => some (x :: xs) | _, _ => none) = some ds := e
    cases e1 : use env a with
    | none => rw [e1] at e'; cases e'
    | some x =>
      cases e2 : useAll env as with
      | none => rw [e1, e2] at e'; cases e'
      | some xs =>
        rw [e1, e2] at e'; cases e'
        exact .cons (use_view r (fun p h => ht p (List.mem_append_left _ h)) sl fam e1) (use_all sl rs (fun p h => ht p (List.mem_append_right _ h)) fam e2)

/-! ### and, or, not, if .. else -/
theorem useB_bind {γ δ : Type} {R2 : RR γ δ} {r : Env → Res Ar} {f : Bool → Env → Res γ} {σ : St} {H : Hp} {Q : δ → Hp → Prop} {Q' : Bool → Hp → Prop} (h : tG X.K X.w xi W R2 (fun env => (useB (r env)).bind f) σ H Q)
    (next : ∀ Hf L k env2 Hf2 H2 L2, Sl env2 σ L2 → Step Hf H L Hf2 H2 L2 → Fam X.K X.w Hf2 H2 L2 → Fin X.K X.w xi W R2 σ Hf H L (f k env2) Q → Q' k H2) : tG X.K X.w xi W RB (fun env => useB (r env)) σ H Q' := by
  refine bindF (R1 := RB) h fun Hf L k env2 b T Hf2 H2 L2 r2 sl st fam fin => ?_
  obtain ⟨rfl, rfl⟩ := r2
  exact next Hf L k env2 Hf2 H2 L2 sl st fam fin
theorem tG_of {γ δ : Type} {R2 : RR γ δ} {r : Env → Res γ} {σ : St} {Hf H Hf1 H1 : Hp} {L L1 : List WV} {env1 : Env} {Q : δ → Hp → Prop} (sl : Sl env1 σ L1) (st : Step Hf H L Hf1 H1 L1) (fam : Fam X.K X.w Hf1 H1 L1)
    (fin : Fin X.K X.w xi W R2 σ Hf H L (r env1) Q) : tG X.K X.w xi W R2 r σ H1 Q := by
  refine ⟨Hf1, env1, L1, ⟨sl, fam, st.sub⟩, ?_⟩
  cases e : r env1 with
  | ok c env2 => rw [e] at fin; exact fun d T Hg H' L' h1 h2 h3 h4 => fin d T Hg H' L' h1 h2 (st.tr h3) h4
  | exc x env2 => rw [e] at fin; exact fun Hg H' L' cls dd h1 h2 h3 h4 => fin Hg H' L' cls dd h1 (st.tr h2) h3 h4
  | bad => rw [e] at fin; exact fin
/-- the same wish with another reading of the result -/
theorem andR {ra rb : Env → Res Ar} {σ : St} {H : Hp} {Q : VK} (q : tG X.K X.w xi W RAr (fun env => (useB (ra env)).bind fun k env => if k = true then rb env else .ok (.val (.d (.bl false))) env) σ H Q) :
    tAndV (tG X.K X.w xi W RAr ra) (tG X.K X.w xi W RAr rb) σ H Q := by
  refine tB_of (useB_bind q fun Hf L k env2 Hf2 H2 L2 sl st fam fin => ?_)
  cases k with
  | true => exact iteT (tG_of sl st fam (by rw [if_pos rfl] at fin; exact fin))
  | false => exact iteF (fin_bl (M := []) (by rw [if_neg Bool.false_ne_true] at fin; exact fin) sl st fam)
theorem orR {ra rb : Env → Res Ar} {σ : St} {H : Hp} {Q : VK} (q : tG X.K X.w xi W RAr (fun env => (useB (ra env)).bind fun k env => if k = true then .ok (.val (.d (.bl true))) env else rb env) σ H Q) :
    tOrV (tG X.K X.w xi W RAr ra) (tG X.K X.w xi W RAr rb) σ H Q := by
  refine tB_of (useB_bind q fun Hf L k env2 Hf2 H2 L2 sl st fam fin => ?_)
  cases k with
  | true => exact iteT (fin_bl (M := []) (by rw [if_pos rfl] at fin; exact fin) sl st fam)
  | false => exact iteF (tG_of sl st fam (by rw [if_neg Bool.false_ne_true] at fin; exact fin))
theorem useB_and {ra rb : Env → Res Ar} {env : Env} : useB ((useB (ra env)).bind fun k env => if k = true then rb env else .ok (.val (.d (.bl false))) env) = (useB (ra env)).bind fun k env => if k = true then useB (rb env) else .ok false env := by
  cases useB (ra env) with
  | ok k e => cases k <;> rfl
  | exc x e => rfl
  | bad => rfl
theorem useB_or {ra rb : Env → Res Ar} {env : Env} : useB ((useB (ra env)).bind fun k env => if k = true then .ok (.val (.d (.bl true))) env else rb env) = (useB (ra env)).bind fun k env => if k = true then .ok true env else useB (rb env) := by
  cases useB (ra env) with
  | ok k e => cases k <;> rfl
  | exc x e => rfl
  | bad => rfl
theorem useB_if {rc ra rb : Env → Res Ar} {env : Env} : useB ((useB (rc env)).bind fun k env => if k = true then ra env else rb env) = (useB (rc env)).bind fun k env => if k = true then useB (ra env) else useB (rb env) := by
  cases useB (rc env) with
  | ok k e => cases k <;> rfl
  | exc x e => rfl
  | bad => rfl
theorem useB_not {ra : Env → Res Ar} {env : Env} : useB ((useB (ra env)).bind fun k env => .ok (.val (.d (.bl (!k)))) env) = (useB (ra env)).bind fun k env => .ok (!k) env := by
  cases useB (ra env) with
  | ok k e => rfl
  | exc x e => rfl
  | bad => rfl
theorem tG_congr {γ δ : Type} {R2 : RR γ δ} {r r' : Env → Res γ} {σ : St} {H : Hp} {Q : δ → Hp → Prop} (h : ∀ env, r env = r' env) (q : tG X.K X.w xi W R2 r σ H Q) : tG X.K X.w xi W R2 r' σ H Q := by
  obtain ⟨Hf, env, L, s0, fin⟩ := q
  exact ⟨Hf, env, L, s0, by rw [← h env]; exact fin⟩
theorem fin_b {σ : St} {Hf H Hf1 H1 : Hp} {L L1 : List WV} {env1 : Env} {Q : Bool → Hp → Prop} {k : Bool} (fin : Fin X.K X.w xi W RB σ Hf H L (.ok k env1) Q) (sl : Sl env1 σ L1) (st : Step Hf H L Hf1 H1 L1) (fam : Fam X.K X.w Hf1 H1 L1) : Q k H1 :=
  fin k [] Hf1 H1 L1 ⟨rfl, rfl⟩ sl st fam
theorem andT {ra rb : Env → Res Ar} {σ : St} {H : Hp} {Q : Bool → Hp → Prop} (q : tG X.K X.w xi W RB (fun env => useB ((useB (ra env)).bind fun k env => if k = true then rb env else .ok (.val (.d (.bl false))) env)) σ H Q) :
    tAnd (tG X.K X.w xi W RB (fun env => useB (ra env))) (tG X.K X.w xi W RB (fun env => useB (rb env))) σ H Q := by
  refine useB_bind (tG_congr (fun env => useB_and (ra := ra) (rb := rb)) q) fun Hf L k env2 Hf2 H2 L2 sl st fam fin => ?_
  cases k with
  | true => exact iteT (tG_of sl st fam (by rw [if_pos rfl] at fin; exact fin))
  | false => exact iteF (fin_b (by rw [if_neg Bool.false_ne_true] at fin; exact fin) sl st fam)
theorem orT {ra rb : Env → Res Ar} {σ : St} {H : Hp} {Q : Bool → Hp → Prop} (q : tG X.K X.w xi W RB (fun env => useB ((useB (ra env)).bind fun k env => if k = true then .ok (.val (.d (.bl true))) env else rb env)) σ H Q) :
    tOr (tG X.K X.w xi W RB (fun env => useB (ra env))) (tG X.K X.w xi W RB (fun env => useB (rb env))) σ H Q := by
  refine useB_bind (tG_congr (fun env => useB_or (ra := ra) (rb := rb)) q) fun Hf L k env2 Hf2 H2 L2 sl st fam fin => ?_
  cases k with
  | true => exact iteT (fin_b (by rw [if_pos rfl] at fin; exact fin) sl st fam)
  | false => exact iteF (tG_of sl st fam (by rw [if_neg Bool.false_ne_true] at fin; exact fin))

/-- a test whatever its whole is -/
def SndW (X : Cx) (xi : XI) (W : WX) (x : Expr) (r : Env → Res Ar) : Prop := Snd X xi W x r ∧ PW X x (tG X.K X.w xi W RB (fun env => useB (r env)))
theorem impW {e : Expr} {t t' : TT} (h : PW X e t) (f : ∀ σ H Q, t' σ H Q → t σ H Q) : PW X e t' := ⟨fun wh pins s σ H Q I q => h.run wh pins s σ H Q I (f σ H Q q)⟩
theorem snd_and1 {a b : Expr} {ra rb : Env → Res Ar} {pos : Pos} (ha : Snd X xi W a ra) (hb : Snd X xi W b rb) :
    SndW X xi W (.BoolOp .And [a, b] pos) (fun env => (useB (ra env)).bind fun k env => if k = true then rb env else .ok (.val (.d (.bl false))) env) := by
  have w : PW X (.BoolOp .And [a, b] pos) _ := impW (pw_and ha.pt (pw_and1 hb.pt)) fun σ H Q q => andT q
  exact ⟨⟨impE (pe_and ha.pe (pe_one hb.pe)) fun σ H Q q => andR q, w.pt⟩, w⟩
theorem snd_and2 {a b c : Expr} {rest : List Expr} {ra rb : Env → Res Ar} {pos : Pos} (ha : Snd X xi W a ra) (hb : SndW X xi W (.BoolOp .And (b :: c :: rest) pos) rb) :
    SndW X xi W (.BoolOp .And (a :: b :: c :: rest) pos) (fun env => (useB (ra env)).bind fun k env => if k = true then rb env else .ok (.val (.d (.bl false))) env) := by
  have w : PW X (.BoolOp .And (a :: b :: c :: rest) pos) _ := impW (pw_and ha.pt hb.2) fun σ H Q q => andT q
  exact ⟨⟨impE (pe_and ha.pe hb.1.pe) fun σ H Q q => andR q, w.pt⟩, w⟩
theorem snd_or1 {a b : Expr} {ra rb : Env → Res Ar} {pos : Pos} (ha : Snd X xi W a ra) (hb : Snd X xi W b rb) :
    SndW X xi W (.BoolOp .Or [a, b] pos) (fun env => (useB (ra env)).bind fun k env => if k = true then .ok (.val (.d (.bl true))) env else rb env) := by
  have w : PW X (.BoolOp .Or [a, b] pos) _ := impW (pw_or ha.pt (pw_or1 hb.pt)) fun σ H Q q => orT q
  exact ⟨⟨impE (pe_or ha.pe (pe_one hb.pe)) fun σ H Q q => orR q, w.pt⟩, w⟩
theorem snd_or2 {a b c : Expr} {rest : List Expr} {ra rb : Env → Res Ar} {pos : Pos} (ha : Snd X xi W a ra) (hb : SndW X xi W (.BoolOp .Or (b :: c :: rest) pos) rb) :
    SndW X xi W (.BoolOp .Or (a :: b :: c :: rest) pos) (fun env => (useB (ra env)).bind fun k env => if k = true then .ok (.val (.d (.bl true))) env else rb env) := by
  have w : PW X (.BoolOp .Or (a :: b :: c :: rest) pos) _ := impW (pw_or ha.pt hb.2) fun σ H Q q => orT q
  exact ⟨⟨impE (pe_or ha.pe hb.1.pe) fun σ H Q q => orR q, w.pt⟩, w⟩
theorem snd_not {a : Expr} {ra : Env → Res Ar} {pos : Pos} (ha : Snd X xi W a ra) : Snd X xi W (.UnaryOp .Not a pos) (fun env => (useB (ra env)).bind fun k env => .ok (.val (.d (.bl (!k)))) env) := by
  refine ⟨impE (pe_not ha.pe) fun σ H Q q => ?_, impT (pt_not ha.pt) fun σ H Q q => ?_⟩
  · exact tB_of (useB_bind q fun Hf L k env2 Hf2 H2 L2 sl st fam fin => fin_bl (M := []) fin sl st fam)
  · exact useB_bind (tG_congr (fun env => useB_not) q) fun Hf L k env2 Hf2 H2 L2 sl st fam fin => fin_b fin sl st fam
/-- isTrue of c if t else .. -/
theorem pt_ifExp {c a b : Expr} {pos : Pos} {tc ta tb : TT} (hc : PT X c tc) (ha : PT X a ta) (hb : PT X b tb) : PT X (.IfExp c a b pos) (fun σ H Q => tc σ H fun k H1 => if k = true then ta σ H1 Q else tb σ H1 Q) := by
  refine ⟨fun pins s σ H Q I h => ?_⟩
  show wpAny _ _ (do if ← isTrue c X.env (eval c X.env) then isTrue a X.env (eval a X.env) else isTrue b X.env (eval b X.env)) _ _ s
  refine wpAny_bind (thn (hc.run pins s σ H _ I h) fun k s1 ⟨H1, I1, q1⟩ => ?_)
  cases k with
  | true => exact ha.run pins s1 σ H1 Q I1 q1
  | false => exact hb.run pins s1 σ H1 Q I1 q1
theorem snd_ifx {c a b : Expr} {rc ra rb : Env → Res Ar} {pos : Pos} (hc : Snd X xi W c rc) (ha : Snd X xi W a ra) (hb : Snd X xi W b rb) : Snd X xi W (.IfExp c a b pos) (fun env => (useB (rc env)).bind fun k env => if k = true then ra env else rb env) := by
  refine ⟨impE (pe_ifExp hc.pt ha.pe hb.pe) fun σ H Q q => ?_, impT (pt_ifExp hc.pt ha.pt hb.pt) fun σ H Q q => ?_⟩
  · refine useB_bind q fun Hf L k env2 Hf2 H2 L2 sl st fam fin => ?_
    cases k with
    | true => exact iteT (tG_of sl st fam (by rw [if_pos rfl] at fin; exact fin))
    | false => exact iteF (tG_of sl st fam (by rw [if_neg Bool.false_ne_true] at fin; exact fin))
  · refine useB_bind (tG_congr (fun env => useB_if (rc := rc) (ra := ra) (rb := rb)) q) fun Hf L k env2 Hf2 H2 L2 sl st fam fin => ?_
    cases k with
    | true => exact iteT (tG_of sl st fam (by rw [if_pos rfl] at fin; exact fin))
    | false => exact iteF (tG_of sl st fam (by rw [if_neg Bool.false_ne_true] at fin; exact fin))
theorem snd_neg {a : Expr} {ra : Env → Res Ar} {pos : Pos} (ha : Snd X xi W a ra) : Snd X xi W (.UnaryOp .USub a pos) (fun env => (ra env).bind fun x env => match use env x with
    | some (.int i) => .ok (.val (.d (.int (-i)))) env
    | _ => .bad) := by
  refine Snd.of_pe rfl (impE (pe_un un_neg ha.pe) fun σ H Q q => ?_)
  refine bindF (R1 := RAr) (R2 := RAr) q fun Hf L a env1 v T1 Hf1 H1 L1 r1 sl1 st1 fam1 fin => ?_
  cases e : use env1 a with
  | none => rw [e] at fin; exact fin.elim
  | some d =>
    cases d <;> first | (rw [e] at fin; exact fin.elim) | skip
    rw [e] at fin
    exact ⟨_, (use_view r1 (fun _ h => h) sl1 fam1 e).int, fin_d fin sl1 st1 fam1 (.int _)⟩

/-! ### a < b < c -/
theorem chain_ok (c : CxOk X lv) {o1 o2 : Co} {ra rb rc : Env → Res Ar} {σ : St} {H : Hp} {Q : VK}
    (q : tG X.K X.w xi W RAr (fun env => (ra env).bind fun x env => (rb env).bind fun y env => match use env x, use env y with
      | some dx, some dy => match cmpF o1 dx dy with
        | some true => (rc env).bind fun z env => match use env y, use env z with
          | some dy, some dz => Res.of ((cmpF o2 dy dz).map fun b => .val (.d (.bl b))) env
          | _, _ => .bad
        | some false => .ok (.val (.d (.bl false))) env
        | none => .bad
      | _, _ => .bad) σ H Q) : tChain (rCo X.K X.w o1) (rCo X.K X.w o2) (tG X.K X.w xi W RAr ra) (tG X.K X.w xi W RAr rb) (tG X.K X.w xi W RAr rc) σ H Q := by
  refine bindF (R1 := RAr) (R2 := RAr) q fun Hf L x env1 vx T1 Hf1 H1 L1 r1 sl1 st1 fam1 fin => ?_
  refine bindG (R1 := RAr) (R2 := RAr) (T := T1) st1 fam1 sl1 fin fun y env2 vy T2 Hf2 H2 L2 r2 sl2 st2 fam2 _ fin2 => ?_
  have e : T1 ++ (T2 ++ L2) = (T1 ++ T2) ++ L2 := (List.append_assoc _ _ _).symm
  rw [e] at st2 fam2
  cases ex : use env2 x with
  | none => simp only [ex] at fin2; exact fin2.elim
  | some dx =>
    cases ey : use env2 y with
    | none => simp only [ex, ey] at fin2; exact fin2.elim
    | some dy =>
      simp only [ex, ey] at fin2
      have vwx := use_view r1 (fun p h => List.mem_append_left _ h) sl2 fam2 ex
      have vwy := use_view r2 (fun p h => List.mem_append_right T1 h) sl2 fam2 ey
      cases ec : cmpF o1 dx dy with
      | none => rw [ec] at fin2; exact fin2.elim
      | some k =>
        rw [ec] at fin2
        refine co_fin st2.sub vwx vwy ec ⟨k, rfl, ?_⟩
        cases k with
        | false => exact iteF (fin_bl fin2 sl2 st2 fam2)
        | true =>
          refine iteT (bindG (R1 := RAr) (R2 := RAr) (T := T1 ++ T2) st2 fam2 sl2 fin2 fun z env3 vz T3 Hf3 H3 L3 r3 sl3 st3 fam3 _ fin3 => ?_)
          have e3 : (T1 ++ T2) ++ (T3 ++ L3) = ((T1 ++ T2) ++ T3) ++ L3 := (List.append_assoc _ _ _).symm
          rw [e3] at st3 fam3
          cases ey3 : use env3 y with
          | none => simp only [ey3] at fin3; exact fin3.elim
          | some dy3 =>
            cases ez : use env3 z with
            | none => simp only [ey3, ez] at fin3; exact fin3.elim
            | some dz =>
              simp only [ey3, ez] at fin3
              cases ec2 : cmpF o2 dy3 dz with
              | none => rw [ec2] at fin3; exact fin3.elim
              | some k2 =>
                rw [ec2] at fin3
                exact co_fin st3.sub (use_view r2 (fun p h => List.mem_append_left _ (List.mem_append_right _ h)) sl3 fam3 ey3) (use_view r3 (fun p h => List.mem_append_right _ h) sl3 fam3 ez) ec2 (fin_bl fin3 sl3 st3 fam3)
theorem marks2 {p q : CmpOp} {b c : Expr} (h : notSet c = true) : lastMarks [p, q] [b, c] = false := by
  show behindInMarks q c = false
  exact nomark_of h q
theorem snd_chain (c : CxOk X lv) {o1 o2 : Co} {p q : CmpOp} {a b d : Expr} {ra rb rc : Env → Res Ar} {pos : Pos} (h1 : coOk o1 p = true) (h2 : coOk o2 q = true) (hd : notSet d = true) (ha : Snd X xi W a ra) (hb : Snd X xi W b rb) (hc : Snd X xi W d rc) :
    Snd X xi W (.Compare a [p, q] [b, d] pos) (fun env => (ra env).bind fun x env => (rb env).bind fun y env => match use env x, use env y with
      | some dx, some dy => match cmpF o1 dx dy with
        | some true => (rc env).bind fun z env => match use env y, use env z with
          | some dy, some dz => Res.of ((cmpF o2 dy dz).map fun b => .val (.d (.bl b))) env
          | _, _ => .bad
        | some false => .ok (.val (.d (.bl false))) env
        | none => .bad
      | _, _ => .bad) :=
  ⟨impE (pe_chain (op_co c o1 p h1) (op_co c o2 q h2) ha.pe hb.pe hc.pe (marks2 hd)) fun σ H Q z => chain_ok c z,
   impT (pt_chain (op_co c o1 p h1) (op_co c o2 q h2) ha.pe hb.pe hc.pe (marks2 hd)) fun σ H Q z => chain_ok c (tB_of z)⟩

/-! ### {..} -/
theorem mergeK_self : ∀ {more acc : List (Key × V)}, ((acc ++ more).map (·.1)).Nodup → mergeK acc more = acc ++ more
  | [], acc, _ => by rw [List.append_nil]; rfl
  | p :: r, acc, h => by
    have hn : p.1 ∉ acc.map (·.1) := by
      rw [List.map_append, List.map_cons] at h
      intro q
      exact (List.nodup_append.mp h).2.2 _ q _ List.mem_cons_self rfl
    have e : putK acc p.1 p.2 = acc ++ [p] := by
      have h0 : (acc.any fun kv => decide (kv.1 = p.1)) = false := by
        rw [List.any_eq_false]
        intro kv hk
        simp only [decide_eq_true_eq]
        intro z
        exact hn (z ▸ List.mem_map_of_mem hk)
      unfold putK
      rw [h0]
      rfl
    show mergeK (putK acc p.1 p.2) r = _
    rw [e, mergeK_self (by rw [List.append_assoc]; exact h), List.append_assoc]
    rfl
end
end PyEv

set_option maxRecDepth 100000
set_option maxHeartbeats 2000000
/-! PyB6: built-in functions, subscripts, slices, methods. -/
namespace PyEv
open PySem L2
variable [TabL]

/-! ### t[::-1] of a tuple -/
section
open HT PyProof.Rows
variable {prog : Program} {w : World} {A : Around} {E : Value → Shared → Prop} {s : Shared}
theorem filterMap_all {α β : Type} {f : α → Option β} {g : α → β} : ∀ {l : List α}, (∀ k ∈ l, f k = some (g k)) → l.filterMap f = l.map g
  | [], _ => rfl
  | a :: l, h => by
    rw [List.filterMap_cons, h a List.mem_cons_self, List.map_cons, filterMap_all fun k hk => h k (List.mem_cons_of_mem _ hk)]
theorem rev_pick (xs : Array Value) : ((List.range xs.size).filterMap fun (k : Nat) => xs[(((xs.size : Int) - 1) + (k : Int) * (-1)).toNat]?).toArray = xs.toList.reverse.toArray := by
  congr 1
  apply List.ext_getElem?
  intro i
  have hf : ∀ k ∈ List.range xs.size, (fun (k : Nat) => xs[(((xs.size : Int) - 1) + (k : Int) * (-1)).toNat]?) k = some (xs.toList.reverse.getD k default) := by
    intro k hk
    have hk' : k < xs.size := List.mem_range.mp hk
    have e : (((xs.size : Int) - 1) + (k : Int) * (-1)).toNat = xs.size - 1 - k := by omega
    show xs[(((xs.size : Int) - 1) + (k : Int) * (-1)).toNat]? = _
    rw [e, ← Array.getElem?_toList]
    have h1 : xs.toList.reverse[k]? = xs.toList[xs.toList.length - 1 - k]? := List.getElem?_reverse (by simpa using hk')
    have h2 : k < xs.toList.reverse.length := by simpa using hk'
    rw [List.getD_eq_getElem?_getD, h1, Array.length_toList]
    have h3 : xs.size - 1 - k < xs.toList.length := by rw [Array.length_toList]; omega
    rw [List.getElem?_eq_getElem h3]
    rfl
  rw [filterMap_all hf, List.getElem?_map]
  by_cases hi : i < xs.size
  · rw [List.getElem?_range hi]
    have h2 : i < xs.toList.reverse.length := by simpa using hi
    show some (xs.toList.reverse.getD i default) = _
    rw [List.getD_eq_getElem?_getD, List.getElem?_eq_getElem h2]
    rfl
  · rw [List.getElem?_eq_none (by simpa using hi), List.getElem?_eq_none (by simpa using hi)]
    rfl
theorem getItem_tuple_rev {t sl : Addr} {items : Array Value} {u : Tok} {Q : Value → Shared → Prop} (ht : IsTup s.heap t items) (hs : s.heap.IsSliceOf sl .none .none (.int (-1) u))
    (h : Q (.ref s.heap.objs.size) { s with heap := s.heap.push { cls := .type "tuple", data := .seq items.toList.reverse.toArray } }) (hsz : items.size ≤ sizeLine) : wpAny (model prog w) A (getItem (.ref t) (.ref sl)) Q E s := by
  obtain ⟨os, hos, hcs, hds⟩ := id hs
  have hTs : s.TypeIs (.ref sl) "slice" := ⟨os, hos, hcs⟩
  unfold getItem
  try with_reducible refine wpAny_holding ?_
  first | refine wpAny_bind (wpAny_pure ?_) | skip
  refine wpAny_bind (wpAny_sequenceKey ht.typeIs (by decide) ?_)
  refine wpAny_bind (wpAny_callSpecial?_slot (name := Str.ofString "__getitem__") ht.typeIs PyProof.Rows.slot_tuple_getitem
    (wpAny_call_entry PyProof.Rows.slot_tuple_getitem ht.typeIs entry_tuple_getitem ?_ (args_tuple_getitem _ _)))
  show wpAny _ _ (Builtin.Tuple.tupleItemsOf (.ref t) >>= _) _ _ s
  refine wpAny_bind (tupleItemsOf_ ht ?_)
  refine wpAny_bind (wpAny_typeOf hTs ?_)
  rw [if_pos (by decide)]
  have hap : ∀ {R : Int × Int × Nat → Shared → Prop}, R ((items.size : Int) - 1, -1, items.size) s → wpAny (model prog w) A.in1 (Builtin.Slice.sliceApplied (.ref sl) (pure (items.size : Int))) R E s := by
    intro R hR
    unfold Builtin.Slice.sliceApplied Builtin.Slice.sliceFields
    refine wpAny_bind (wpAny_bind (wpAny_field hos hds (x := .none) rfl (wpAny_bind (wpAny_field hos hds (x := .none) rfl (wpAny_bind (wpAny_field hos hds (x := .int (-1) u) rfl (wpAny_pure ?_)))))))
    refine wpAny_bind (slicePart_ (.int (-1) u) ?_)
    show wpAny _ _ (if ((-1 : Int) == 0) = true then _ else _) _ _ s
    rw [if_neg (by decide)]
    refine wpAny_bind (slicePart_ .none (wpAny_bind (slicePart_ .none (wpAny_bind (wpAny_pure ?_)))))
    show wpAny _ _ (match Builtin.Slice.sliceAdjust none none (-1) (items.size : Int) with | (lo, hi) => pure (lo, (-1 : Int), Builtin.Slice.slicePlaces lo hi (-1))) _ _ s
    have e1 : Builtin.Slice.sliceAdjust none none (-1) (items.size : Int) = ((items.size : Int) - 1, -1) := by
      unfold Builtin.Slice.sliceAdjust
      simp
    rw [e1]
    show wpAny _ _ (pure ((items.size : Int) - 1, (-1 : Int), Builtin.Slice.slicePlaces ((items.size : Int) - 1) (-1) (-1))) _ _ s
    have e2 : Builtin.Slice.slicePlaces ((items.size : Int) - 1) (-1) (-1) = items.size := by
      unfold Builtin.Slice.slicePlaces
      simp
      omega
    rw [e2]
    exact wpAny_pure hR
  refine wpAny_bind (hap ?_)
  have hno : ¬ ((((items.size : Int) - 1) == 0 && (-1 : Int) == 1 && items.size == items.size) = true) := by simp
  show wpAny _ _ (if (((items.size : Int) - 1) == 0 && (-1 : Int) == 1 && items.size == items.size) = true then _ else _) _ _ s
  rw [if_neg hno, rev_pick]
  have htake : sizeOk (.seq items.toList.reverse.toArray) := by
    show items.toList.reverse.toArray.size ≤ sizeLine
    rw [List.size_toArray, List.length_reverse, Array.length_toList]
    exact hsz
  first
    | exact wpAny_bind (m := Builtin.Tuple.tupleExact _) (wpAny_newObj_type (wpAny_pure ⟨_, rfl, wpAny_pure h⟩) htake)
    | exact wpAny_bind (m := Builtin.Tuple.tupleExact _) (wpAny_newObj_type (wpAny_bind (wpAny_pure (wpAny_pure ⟨_, rfl, wpAny_pure h⟩))) htake)
    | exact wpAny_bind (wpAny_bind (m := Builtin.Tuple.tupleExact _) (wpAny_newObj_type (wpAny_pure (wpAny_pure ⟨_, rfl, wpAny_pure h⟩)) htake))
    | exact wpAny_bind (wpAny_bind (m := Builtin.Tuple.tupleExact _) (wpAny_newObj_type (wpAny_pure ⟨_, rfl, wpAny_pure h⟩) htake))
end

section
variable {X : Cx} {xi : XI} {W : WX} {lv : Nat}
theorem SqT.listV {K : PySem.W.Frag} {H : Hp} {a : Addr} {xs : List V} (h : SqT K H a xs) : SqT K H a xs := h

def tRevT (K : PySem.W.Frag) (te : TE) : TE := fun σ H Q => te σ H fun x H1 => (∃ a xs, x = .ref a ∧ SqT K H1 a xs ∧ ∀ p, H1 p = none → Q (.ref p) (upd H1 p (.tup xs.reverse))) ∨ ∃ z, x = .str z ∧ z.length ≤ sizeLine ∧ Q (.str (revS z)) H1
theorem sliceMade_rev {z : Str} {t u : Tok} : sliceMade z t none none (some (-1, u)) = .str (revS z) := by
  have e := PyProof.Rows.step_rev_list z u
  have h1 : Txt.sliceBy z none none (-1, u) = revS z := by
    have h2 : (Txt.sliceBy z none none (-1, u)).cps.toList = z.cps.toList.reverse := by
      rw [e]
      apply List.ext_getElem?
      intro i
      by_cases hi : i < z.length
      · rw [List.getElem?_map, List.getElem?_range hi]
        have hi' : i < z.cps.toList.length := by simpa [Str.length] using hi
        rw [List.getElem?_reverse hi', Array.length_toList]
        have h3 : z.cps.size - 1 - i < z.cps.size := by have : i < z.cps.size := hi; omega
        rw [Array.getElem?_toList, Array.getElem?_eq_getElem h3]
        show some (z.cps.getD (z.cps.size - 1 - i) 0) = _
        simp [Array.getD, h3]
      · have hi' : ¬ i < z.cps.size := hi
        rw [List.getElem?_eq_none (by simpa [Str.length] using hi), List.getElem?_eq_none (by simpa using hi')]
    generalize Txt.sliceBy z none none (-1, u) = y at h2
    obtain ⟨c⟩ := y
    unfold revS
    rw [← h2]
  rw [← h1]
  rfl
theorem Vals.rev {xs : List V} {us : List Value} (r : Vals xs us) : Vals xs.reverse us.reverse := by
  induction xs generalizing us with
  | nil => cases r; exact .nil
  | cons x xs ih =>
    cases r with
    | cons r t =>
      rw [List.reverse_cons, List.reverse_cons]
      exact (ih t).append (.cons r .nil)
theorem pe_revT {e : Expr} {te : TE} {k : Nat} {p1 p2 p3 pos : Pos} (he : PE X e te) : PE X (.Subscript e (.Slice none none (some (.UnaryOp .USub (.Constant (.int 1) k p1) p2)) p3) pos) (tRevT X.K te) := by
  refine ⟨fun pins s σ H Q I h => ?_⟩
  refine PyProof.Rows.Subscript_ (thn (he.run pins s σ H _ I h) fun v s1 ⟨x, H1, I1, r1, q1⟩ => ?_)
  have hst : PO X (some (.UnaryOp .USub (.Constant (.int 1) k p1) p2)) (tPart (tUn (rU fun i => .int (-i)) (tC (.int 1)))) := po_some (pe_un un_neg pe_int)
  refine wpAny_Slice (thn (po_none.run pins s1 σ H1 (fun o H2 => o = none ∧ H2 = H1) I1 ⟨rfl, rfl⟩) fun vl s2 ⟨l, H2, I2, pl, el, e2⟩ => ?_)
  subst el e2
  refine thn (po_none.run pins s2 σ H2 (fun o H3 => o = none ∧ H3 = H2) I2 ⟨rfl, rfl⟩) fun vu s3 ⟨u, H3, I3, pu, eu, e3⟩ => ?_
  subst eu e3
  refine thn (hst.run pins s3 σ H3 (fun o H4 => o = some (-1) ∧ H4 = H3) I3 ⟨1, rfl, -1, rfl, rfl, rfl⟩) fun vs s4 ⟨o, H4, I4, ps, eo, e4⟩ => ?_
  subst eo e4
  have I5 : Inv X pins σ H4 { s4 with heap := s4.heap.push { cls := .type "slice", data := .fields #[vl, vu, vs] } } := I4.kept (t' := s4.toks) fun b ob q => Heap.get?_push_of_some _ q
  rcases q1 with ⟨a, xs, ex, hx, q⟩ | ⟨z, ex, hz, q⟩
  rotate_left
  · subst ex
    obtain ⟨t, rfl⟩ := r1
    cases pl
    cases pu
    cases ps
    show wpAny (model X.prog X.w) X.A (PyProof.Rows.subscriptTail e (.Slice none none (some (.UnaryOp .USub (.Constant (.int 1) k p1) p2)) p3) (.str z t) (.ref s4.heap.objs.size)) (EP X pins σ Q) X.xe { s4 with heap := s4.heap.push { cls := .type "slice", data := .fields #[.none, .none, .int (-1) _] } }
    refine PyProof.Rows.tail_any (ops := [.ref s4.heap.objs.size, .str z t]) (typeIs_str _ _ _) F.slot_str_getitem.lookup ?_ (by with_unfolding_all rfl)
    refine wpAny_getItem_str_slice (l := none) (u := none) (st := some (-1, _)) ⟨_, Heap.get?_push_size _ rfl, rfl, rfl⟩ rfl ?_
    rw [sliceMade_rev]
    have hl : (revS z).length ≤ sizeLine := by
      show (z.cps.toList.reverse.toArray).size ≤ sizeLine
      rw [List.size_toArray, List.length_reverse, Array.length_toList]
      exact hz
    exact ⟨hl, .str _, _, I5.tok _, ⟨_, rfl⟩, q⟩
  subst ex
  cases r1
  obtain ⟨its, r, ht, hz⟩ := I5.tuple hx
  have hlen := r.length
  show wpAny (model X.prog X.w) X.A (PyProof.Rows.subscriptTail e (.Slice none none (some (.UnaryOp .USub (.Constant (.int 1) k p1) p2)) p3) (.ref a) (.ref s4.heap.objs.size)) (EP X pins σ Q) X.xe { s4 with heap := s4.heap.push { cls := .type "slice", data := .fields #[vl, vu, vs] } }
  refine PyProof.Rows.tail_any (ops := [.ref a, .ref s4.heap.objs.size]) ht.typeIs (PyProof.Rows.slot_tuple_getitem.lookup) ?_ (by with_unfolding_all rfl)
  cases pl
  cases pu
  cases ps
  refine getItem_tuple_rev ht (Heap.IsSliceOf.new _ _ _ _) ?_ (by rw [List.size_toArray]; omega)
  refine ⟨.ref _, _, I5.laid (t' := s4.toks) (o := .tup xs.reverse) (fun b ob q => Heap.get?_push_of_some _ q) (Nat.le_refl _) ?_, rfl, q _ (I5.hok.fresh (Nat.le_refl _))⟩
  exact ⟨by rw [List.length_reverse]; exact hz, _, Vals.rev r, PyProof.Rows.IsTup.new _ _⟩

theorem snd_rev {a : Expr} {ra : Env → Res Ar} {i : Int} {k : Nat} {p1 p2 p3 pos : Pos} (hi : i = 1) (ha : Snd X xi W a ra) :
    Snd X xi W (.Subscript a (.Slice none none (some (.UnaryOp .USub (.Constant (.int i) k p1) p2)) p3) pos) (fun env => (ra env).bind fun x env => match use env x with
      | some dx => Res.of ((revF dx).map fun d => .val (.d d)) env
      | none => .bad) := by
  subst hi
  refine Snd.of_pe rfl (impE (pe_revT ha.pe) fun σ H Q q => ?_)
  refine bindF (R1 := RAr) (R2 := RAr) q fun Hf L a env1 v T1 Hf1 H1 L1 r1 sl1 st1 fam1 fin => ?_
  cases e : use env1 a with
  | none => rw [e] at fin; exact fin.elim
  | some d =>
    cases d <;> first | (rw [e] at fin; exact fin.elim) | skip
    · rename_i z
      simp only [e] at fin
      by_cases hz : z.length ≤ line
      · rw [show revF (.str z) = some (.str (revS z)) from if_pos hz] at fin
        have vw := use_view r1 (fun _ h => h) sl1 fam1 e
        exact .inr ⟨z, by rw [vw.str], hz, fin_d fin sl1 st1 fam1 (.str _)⟩
      · rw [show revF (.str z) = none from if_neg hz] at fin
        exact fin.elim
    rw [e] at fin
    obtain ⟨p, vs, rfl, hp, l⟩ := (use_view r1 (fun _ h => h) sl1 fam1 e).tup' st1.sub
    exact .inl ⟨p, vs, rfl, hp, fun q hq => fin_tup fin sl1 st1 fam1 l.reverse hq⟩

/-! ### built-in functions of one operand -/
/-- one operand, then what the function asks -/
theorem one1 {ra : Env → Res Ar} {f : D → Option PyEv.W} {r : V → Hp → VK → Prop} {σ : St} {H : Hp} {Q : VK}
    (h : tG X.K X.w xi W RAr (fun env => (ra env).bind fun x env => match use env x with
      | some dx => Res.of ((f dx).map .val) env
      | none => .bad) σ H Q)
    (op : ∀ Hf L d y env v T Hf2 H2 L2, Sl env σ L2 → Step Hf H L Hf2 H2 (T ++ L2) → Fam X.K X.w Hf2 H2 (T ++ L2) → View X.K X.w Hf2 H2 d v → f d = some y → Fin X.K X.w xi W RAr σ Hf H L (.ok (.val y) env) Q → r v H2 Q) :
    tG X.K X.w xi W RAr ra σ H (fun v H1 => r v H1 Q) := by
  refine bindF (R1 := RAr) (R2 := RAr) h fun Hf L x env1 v T1 Hf1 H1 L1 r1 sl1 st1 fam1 fin => ?_
  cases e : use env1 x with
  | none => simp only [e] at fin; exact fin.elim
  | some d =>
    simp only [e] at fin
    cases ef : f d with
    | none => rw [ef] at fin; exact fin.elim
    | some y =>
      rw [ef] at fin
      exact op Hf L d y env1 v T1 Hf1 H1 L1 sl1 st1 fam1 (use_view r1 (fun _ h => h) sl1 fam1 e) ef fin

def rRepr (K : PySem.W.Frag) (w : World) : List V → Hp → VK → Prop := fun xs H Q => ∃ x d p Hf, xs = [x] ∧ View K w Hf H d x ∧ Same Hf H ∧ d.pyR = some p ∧ p.showable = true ∧ p.shown.length ≤ sizeLine ∧ p.depth ≤ 150 ∧ Q (.str p.shown) H
theorem call_reprD (hg : X.A.guards = some []) (hu : X.A.units + 152 < cLine) (hs : ∃ o, X.base.get? sysModules = some o) : CallR X (.builtin "repr") (rRepr X.K X.w) := by
  intro pins s σ H xs us Q I r h
  obtain ⟨x, d, p, Hf, rfl, vw, sm, hd, h1, h2, h3, q⟩ := h
  obtain ⟨u, rfl, ru⟩ := vals1 r
  obtain ⟨as, rd, h4⟩ := vw.reads I hs sm hd ru
  have rf : ∀ a, u = .ref a → wpAny (model X.prog X.w) X.A (call (.builtin "repr") [u]) (EP X pins σ Q) X.xe s := fun a e => by
    subst e
    exact repr_of_reads' rd h1 (fun _ => h4) hg (by omega) (fun _ _ e => e) (fun h' u tk hk => ⟨.str p.shown, H, I.kept (h' := h') (t' := tk) hk, ⟨u, rfl⟩, q⟩) h2
  cases rd with
  | none => exact PySem.P.repr_of_none ⟨.str _, H, I.tok _, ⟨_, rfl⟩, q⟩
  | bool b => exact PySem.P.repr_of_bool ⟨.str _, H, I.tok _, ⟨_, rfl⟩, q⟩
  | int i t => exact PySem.P.repr_of_int (of_decide_eq_true h1) ⟨.str _, H, I.tok _, ⟨_, rfl⟩, q⟩
  | str z t => exact PySem.P.repr_of_str ⟨.str _, H, I.tok _, ⟨_, rfl⟩, q⟩ h2
  | list => exact rf _ rfl
  | tuple => exact rf _ rfl
  | dict => exact rf _ rfl

def biV : Bi → Value
  | .len => .builtin "len"
  | .tuple => .type "tuple"
  | .list => .type "list"
  | .all => .builtin "all"
  | .any => .builtin "any"
  | .repr => .builtin "repr"
  | .abs => .builtin "abs"
  | .int => .type "int"
def rBi (K : PySem.W.Frag) (w : World) : Bi → List V → Hp → VK → Prop
  | .len => fun xs H Q => (∃ p ys, xs = [.ref p] ∧ (SqL K H p ys ∨ SqT K H p ys) ∧ Q (.int ys.length) H) ∨ (∃ z, xs = [.str z] ∧ z.length ≤ sizeLine ∧ Q (.int z.length) H)
  | .tuple => fun xs H Q => ∃ p ys, xs = [.ref p] ∧ ((SqL K H p ys ∧ ∀ l, H l = none → Q (.ref l) (upd H l (.tup ys))) ∨ (SqT K H p ys ∧ Q (.ref p) H))
  | .list => fun xs H Q => ∃ p ys, xs = [.ref p] ∧ (SqL K H p ys ∨ SqT K H p ys) ∧ ∀ l, H l = none → Q (.ref l) (upd H l (.lst ys))
  | .all => rAll K
  | .any => rAny K
  | .repr => rRepr K w
  | .abs => fun xs H Q => ∃ i, xs = [.int i] ∧ Q (.int (if i < 0 then -i else i)) H
  | .int => fun xs H Q => (∃ i, xs = [.int i] ∧ Q (.int i) H) ∨ ∃ k, xs = [.bl k] ∧ Q (.int (if k then 1 else 0)) H
theorem call_bi (c : CxOk X lv) (f : Bi) : CallR X (biV f) (rBi X.K X.w f) := by
  cases f with
  | len => exact call_len_seq.or call_len_str
  | tuple => exact call_tuple_of
  | list => exact call_list_of
  | all => exact cr_all c.calm
  | any => exact cr_any c.calm
  | repr => exact call_reprD c.guards (by have := c.room.un; omega) c.sys
  | abs => exact call_abs
  | int => exact call_int1
theorem allBl_den {K : PySem.W.Frag} {w : World} {Hf : Hp} : ∀ {ds : List D} {vs : List V} {bs : List Bool}, DenL K w Hf ds vs → allBl ds = some bs → vs = bs.map V.bl
  | _, _, bs, .nil, e => by cases e; rfl
  | _, _, bs, .cons (d := d) (ds := ds) a b, e => by
    cases a <;> first | (cases e; done) | skip
    rename_i k
    have e' : (allBl ds).map (k :: ·) = some bs := e
    cases h : allBl ds with
    | none => rw [h] at e'; cases e'
    | some cs => rw [h] at e'; cases e'; rw [allBl_den b h]; rfl

theorem bi_fin {f : Bi} {σ : St} {Hf H Hf1 H1 : Hp} {L M L1 : List WV} {env1 : Env} {Q : VK} {d : D} {v : V} {y : PyEv.W} (sl : Sl env1 σ L1) (st : Step Hf H L Hf1 H1 (M ++ L1)) (fam : Fam X.K X.w Hf1 H1 (M ++ L1)) (vw : View X.K X.w Hf1 H1 d v) (e : biF f d = some y)
    (fin : Fin X.K X.w xi W RAr σ Hf H L (.ok (.val y) env1) Q) : rBi X.K X.w f [v] H1 Q := by
  have int : ∀ {i : Int}, y = .d (.int i) → Q (.int i) H1 := fun ey => by subst ey; exact fin_d fin sl st fam (.int _)
  cases f with
  | len =>
    cases d <;> first | (cases e; done) | skip
    · rename_i z
      by_cases hz : z.length ≤ line
      · rw [show biF .len (.str z) = some (.d (.int z.length)) from if_pos hz] at e
        exact .inr ⟨z, by rw [vw.str], hz, int (Option.some.inj e).symm⟩
      · rw [show biF .len (.str z) = none from if_neg hz] at e; cases e
    · obtain ⟨p, vs, rfl, hp, l⟩ := vw.tup' st.sub
      exact .inl ⟨p, vs, rfl, .inr hp, by rw [← l.length]; exact int (Option.some.inj e).symm⟩
    · obtain ⟨p, vs, rfl, hp, l⟩ := vw.lst' st.sub
      exact .inl ⟨p, vs, rfl, .inl (SqL.of hp), by rw [← l.length]; exact int (Option.some.inj e).symm⟩
    · rename_i ns
      obtain ⟨p, rfl, hp⟩ := vw.scr' st.sub
      refine .inl ⟨p, _, rfl, .inl hp, ?_⟩
      rw [List.length_map]
      exact int (Option.some.inj e).symm
  | tuple =>
    cases d <;> first | (cases e; done) | skip
    · obtain rfl := Option.some.inj e
      cases vw with
      | den dn =>
        cases dn with
        | tup hp l => exact ⟨_, _, rfl, .inr ⟨SqT.same st.sub hp, fin_d fin sl st fam (.tup hp l)⟩⟩
    · obtain rfl := Option.some.inj e
      obtain ⟨p, vs, rfl, hp, l⟩ := vw.lst' st.sub
      exact ⟨p, vs, rfl, .inl ⟨SqL.of hp, fun q hq => fin_tup fin sl st fam l hq⟩⟩
  | list =>
    cases d <;> first | (cases e; done) | skip
    · obtain rfl := Option.some.inj e
      obtain ⟨p, vs, rfl, hp, l⟩ := vw.tup' st.sub
      exact ⟨p, vs, rfl, .inr hp, fun q hq => fin_lst fin sl st fam l hq⟩
    · obtain rfl := Option.some.inj e
      obtain ⟨p, vs, rfl, hp, l⟩ := vw.lst' st.sub
      exact ⟨p, vs, rfl, .inl (SqL.of hp), fun q hq => fin_lst fin sl st fam l hq⟩
  | all =>
    cases d <;> first | (cases e; done) | skip
    rename_i xs
    obtain ⟨p, vs, rfl, hp, l⟩ := vw.lst' st.sub
    have e' : (allBl xs).map (fun bs => PyEv.W.d (.bl (bs.all id))) = some y := e
    cases h : allBl xs with
    | none => rw [h] at e'; cases e'
    | some bs =>
      rw [h] at e'
      obtain rfl := Option.some.inj e'
      obtain rfl := allBl_den l h
      exact ⟨p, bs, rfl, SqL.of hp, fin_bl fin sl st fam⟩
  | any =>
    cases d <;> first | (cases e; done) | skip
    rename_i xs
    obtain ⟨p, vs, rfl, hp, l⟩ := vw.lst' st.sub
    have e' : (allBl xs).map (fun bs => PyEv.W.d (.bl (bs.any id))) = some y := e
    cases h : allBl xs with
    | none => rw [h] at e'; cases e'
    | some bs =>
      rw [h] at e'
      obtain rfl := Option.some.inj e'
      obtain rfl := allBl_den l h
      exact ⟨p, bs, rfl, SqL.of hp, fin_bl fin sl st fam⟩
  | repr =>
    have e' : (reprF d).map PyEv.W.d = some y := by cases d <;> exact e
    unfold reprF at e'
    cases h : d.pyR with
    | none => rw [h] at e'; cases e'
    | some p =>
      simp only [h] at e'
      by_cases hc : (p.showable && decide (p.shown.length ≤ line) && decide (p.depth ≤ 150)) = true
      · rw [if_pos hc] at e'
        simp only [Bool.and_eq_true, decide_eq_true_eq, Bool.not_eq_true'] at hc
        obtain rfl := Option.some.inj e'
        exact ⟨v, d, p, _, rfl, vw, st.sub, h, hc.1.1, hc.1.2, hc.2, fin_d fin sl st fam (.str _)⟩
      · rw [if_neg hc] at e'; cases e'
  | abs =>
    cases d <;> first | (cases e; done) | skip
    exact ⟨_, by rw [vw.int], int (Option.some.inj e).symm⟩
  | int =>
    cases d <;> first | (cases e; done) | skip
    · exact .inr ⟨_, by rw [vw.bl], int (Option.some.inj e).symm⟩
    · exact .inl ⟨_, by rw [vw.int], int (Option.some.inj e).symm⟩
theorem boot_bi (f : Bi) : bootBuiltins (Str.ofString (biName f)) = some (biV f) := by cases f <;> decide +kernel
theorem biName_in (f : Bi) : biName f ∈ bltNames := by cases f <;> decide
theorem biName_ok (f : Bi) : Str.ofString (biName f) ≠ "__name__" ∧ (Str.ofString (biName f) == ("__debug__" : Str)) = false := by cases f <;> exact ⟨by decide, by decide⟩
theorem snd_bi (c : CxOk X lv) {nm : Nms} (n : NmOk X nm) {f : Bi} {x : Str} {a : Expr} {ra : Env → Res Ar} {p pos : Pos} (hx : Str.ofString (biName f) = x) (hg : glB nm x = true) (hp : plainX a = true) (ha : Snd X xi W a ra) :
    Snd X xi W (.Call (.Name x p) [a] [] pos) (fun env => (ra env).bind fun x env => match use env x with
      | some dx => Res.of ((biF f dx).map .val) env
      | none => .bad) := by
  subst hx
  obtain ⟨n1, n2⟩ := biName_ok f
  have hs := starEach_plain (xs := []) (env := X.env) hp
  have pe : PE X (.Call (.Name (Str.ofString (biName f)) p) [a] [] pos) (tCB (rBi X.K X.w f) (tCons (tG X.K X.w xi W RAr ra) tNil)) := by
    have h := call_bi c f
    have hb := boot_bi f
    cases f <;> first
      | exact pe_callB h (n.gl _ hg) (c.blt _ (biName_in _)) hb (pa_cons ha.pe pa_nil hs) n1 n2 hs rfl
      | exact pe_callTy h (n.gl _ hg) (c.blt _ (biName_in _)) hb (pa_cons ha.pe pa_nil hs) n1 n2 hs rfl
  exact Snd.of_pe rfl (impE pe fun σ H Q q => one1 (r := fun v H Q => rBi X.K X.w f [v] H Q) q fun Hf L d y env v T Hf2 H2 L2 sl st fam vw e fin => bi_fin sl st fam vw e fin)
end
end PyEv

set_option maxRecDepth 100000
set_option maxHeartbeats 2000000
/-! PyIe: enumerate of a text, of a tuple. -/
namespace PySem
open AutoSeq1 (wpAny_loadPart')
set_option maxRecDepth 100000
theorem meets_enumerate_newT (l : Addr) (items : Array Value) (ob : Obj) (hob : ob.cls = .type "tuple") :
    Meets (Builtin.«enumerate.__new__» ⟨[.type "enumerate", .ref l], []⟩) (fun _ R s => s.heap.get? l = some ob ∧ s.heap.IsTuple l items ∧
      R (.ok (.ret (.ref (s.heap.push { cls := .type "tuple_iterator", data := .fields #[.ref l, .int 0 0] }).objs.size)))
        { s with heap := (s.heap.push { cls := .type "tuple_iterator", data := .fields #[.ref l, .int 0 0] }).push { cls := .type "enumerate", data := .fields #[.none, .bool false, .ref s.heap.objs.size, rawInt 0, .none, .none] } }) :=
  .of_wp fun prog w A R s h => by
    obtain ⟨hp, g, d, tk, os⟩ := s; obtain ⟨hl, hL, h⟩ := h
    have hsub := sub_enumerate
    wp_walk using wpAny_loadPart' hl
    refine wpAny_stack_any fun st => wpAny_pure ?_
    split
    · rename_i c _ _ _ _ _
      cases (c == Value.type "enumerate")
      · wp_walk using wpAny_loadPart' hl, wpAny_pyIter_tuple hL
        exact ⟨_, rfl, h⟩
      · wp_walk using wpAny_loadPart' hl, wpAny_pyIter_tuple hL
        exact ⟨_, rfl, h⟩
    · wp_walk using wpAny_loadPart' hl, wpAny_pyIter_tuple hL
      exact ⟨_, rfl, h⟩
section
variable {prog : Program} {w : World} {A : Around} {E : Value → Shared → Prop} {s : Shared}
theorem call_enumerate_tuple {l : Addr} {items : Array Value} {Q : Value → Shared → Prop} (hL : s.heap.IsTuple l items)
    (h : ∀ h', IsEnum h' (s.heap.objs.size + 1) s.heap.objs.size 0 .none → h'.IsTupleIter s.heap.objs.size l 0 → h'.objs.size = s.heap.objs.size + 2 →
      (∀ b o, s.heap.get? b = some o → h'.get? b = some o) → Q (.ref (s.heap.objs.size + 1)) { s with heap := h' }) :
    wpAny (model prog w) A (call (.type "enumerate") [.ref l]) Q E s := by
  obtain ⟨o, hl, hc, hd⟩ := id hL
  refine callType_new F.called_enumerate (by decide) (F.typeCall_enumerate_1 _) (F.newCall_enumerate_1 _) (fun obj => F.args_object_init_2 obj _) F.entry_enumerate_new
    (meets_enumerate_newT l items o hc) ⟨hl, hL, ?_⟩
  have hz : (s.heap.push { cls := .type "tuple_iterator", data := .fields #[.ref l, .int 0 0] }).objs.size = s.heap.objs.size + 1 := Heap.size_push ..
  show _ ∧ _
  rw [hz]
  have he : IsEnum ((s.heap.push { cls := .type "tuple_iterator", data := .fields #[.ref l, .int 0 0] }).push
      { cls := .type "enumerate", data := .fields #[.none, .bool false, .ref s.heap.objs.size, rawInt 0, .none, .none] }) (s.heap.objs.size + 1) s.heap.objs.size 0 .none := by
    have := Heap.get?_push_size (s.heap.push { cls := .type "tuple_iterator", data := .fields #[.ref l, .int 0 0] })
      (o := { cls := .type "enumerate", data := .fields #[.none, .bool false, .ref s.heap.objs.size, rawInt 0, .none, .none] }) rfl
    rw [hz] at this; exact this
  refine ⟨⟨_, he, rfl⟩, h _ he ⟨_, Heap.get?_push_of_some _ (Heap.get?_push_size _ rfl), rfl, rfl⟩ (by rw [Heap.size_push, hz]) fun b o x => Heap.get?_push_of_some _ (Heap.get?_push_of_some _ x)⟩
end
end PySem
namespace PyEv
open PySem L2 PyProof.Rows
/-- the tuple at a, each item in a new pair -/
def IteT (K : PySem.W.Frag) (a : Addr) : L2.It :=
  ⟨fun i H => ∃ (xs : List V) (x : V), SqT K H a xs ∧ xs[i]? = some x, fun i H v H' => ∃ T x, v = .ref T ∧ H T = none ∧ H' = upd H T (.tup [.int (i : Nat), x]) ∧ ∀ xs, SqT K H a xs → xs[i]? = some x, fun i H => ∃ xs : List V, SqT K H a xs ∧ xs.length ≤ i⟩
/-- a text's signs, each in a new pair -/
def IteS (z : Str) : L2.It :=
  ⟨fun i H => ∃ c, z.cps[i]? = some c, fun i H v H' => ∃ T c, v = .ref T ∧ H T = none ∧ H' = upd H T (.tup [.int (i : Nat), .str ⟨#[c]⟩]) ∧ z.cps[i]? = some c, fun i H => z.cps.size ≤ i⟩
theorem cls_ne {h : Heap} {a b : Addr} {o o' : Obj} {n m : String} (h1 : h.get? a = some o) (h2 : h.get? b = some o') (c1 : o.cls = .type n) (c2 : o'.cls = .type m) (hn : n ≠ m) : a ≠ b := fun e => by
  subst e
  rw [h1] at h2
  cases h2
  rw [c1] at c2
  exact hn (by injection c2)
theorem turn_enumT {P : Program} {w : World} {K : PySem.W.Frag} {elts : List Expr} {kk : Nat} {tpos : Pos} (a e it : Addr) :
    Turn P w K (.Tuple elts kk tpos) (IteT K a) [e, it] e (fun i h => (∃ old, IsEnum h e it ((i : Nat) : Int) old) ∧ h.IsTupleIter it a i ∧ e ≠ it) where
  mem := by simp
  obj := fun i h st b hb => by
    obtain ⟨⟨old, he⟩, ⟨o, ho, hc, hd⟩, _⟩ := st
    have e' : b = e ∨ b = it := by simpa using hb
    rcases e' with z | z
    · rw [z]; exact ⟨_, he, fun v q => nomatch q⟩
    · rw [z]; exact ⟨o, ho, fun v q => by rw [hd] at q; cases q⟩
  keep := fun i h h' st k => let ⟨⟨old, he⟩, hi, hne⟩ := st; ⟨⟨old, k e (by simp) _ he⟩, hi.at fun o q => k it (by simp) o q, hne⟩
  item := by
    intro X hP hw hK hc i pins s σ H E I hf st hg
    subst hP hw hK
    obtain ⟨⟨old, he⟩, hit, hne⟩ := st
    obtain ⟨xs, x, hq, hx⟩ := hg
    obtain ⟨its, rv, p, hz⟩ := I.tuple hq
    obtain ⟨u, hu, ru⟩ := rv.get hx
    have hel : e < s.heap.objs.size := Heap.lt_size he
    have hil : it < s.heap.objs.size := by obtain ⟨_, q, _⟩ := hit; exact Heap.lt_size q
    have hea : e ≠ a := by obtain ⟨o, ho, hcl, _⟩ := id p; exact cls_ne he ho rfl hcl (by decide)
    have hai : a ≠ it := by obtain ⟨o, ho, hcl, _⟩ := id p; obtain ⟨o2, ho2, hcl2, _⟩ := id hit; exact cls_ne ho ho2 hcl hcl2 (by decide)
    have hd := I.ok.hd hc
    have hlt : i < its.toArray.size := by
      have := List.getElem?_eq_some_iff.mp hu
      obtain ⟨h1, _⟩ := this
      simpa using h1
    refine wpAny_pyNext_enum_itemD (Draws.tuple (A := X.A.in1) hd it a hai its.toArray) he ⟨hit, p⟩ hlt hne (by simp [hne, hea]) fun y h' tk hy ho hst hT hsz hk => ?_
    have ey : y = u := by
      have : its.toArray[i]? = some u := by simpa using hu
      rw [this] at hy; exact (Option.some.inj hy).symm
    subst ey
    obtain ⟨hit', _⟩ := hst
    refine ⟨_, rfl, wpAny_letOwnedTupleGo_enum (s := { s with heap := h', toks := tk + 1 }) ho fun h'' he' sb => ?_⟩
    have hT2 : h''.get? s.heap.objs.size = some { cls := .type "tuple", data := .seq #[.int i tk, y] } := (sb.2 _ (Nat.ne_of_gt hel)).trans hT
    have new : ObjOk X.prog X.w (upd H s.heap.objs.size (.tup [.int (i : Nat), x])) h'' s.heap.objs.size (.tup [.int (i : Nat), x]) :=
      ⟨by show 2 ≤ sizeLine; decide, [.int i tk, y], .cons ⟨_, rfl⟩ (.cons ru .nil), ⟨_, hT2, rfl, _, rfl⟩⟩
    have I1 : Inv X pins σ (upd H s.heap.objs.size (.tup [.int (i : Nat), x])) { s with heap := h'', toks := tk + 1 } :=
      I.turnedNew (ch := [e, it]) (fun b ob hb q => (sb.2 b (fun z => hb (by simp [z]))).trans (hk b ob (fun z => hb (by simp [z])) (fun z => hb (by simp [z])) q)) hf (Nat.le_refl _) new
    refine ⟨.ref s.heap.objs.size, _, I1, rfl, ⟨_, x, rfl, I.hok.fresh (Nat.le_refl _), rfl, fun ys hy => by rw [I.tuple_inj hy hq]; exact hx⟩, ⟨⟨y, ?_⟩, hit'.at fun o q => (sb.2 it (Ne.symm hne)).trans q, hne⟩, fun b hb => ?_⟩
    · have e1 : ((i + 1 : Nat) : Int) = (i : Int) + 1 := by omega
      rw [e1]; exact he'
    · have hb' : b < s.heap.objs.size := by
        have e' : b = e ∨ b = it := by simpa using hb
        rcases e' with z | z
        · rw [z]; exact hel
        · rw [z]; exact hil
      rw [upd_ne (Nat.ne_of_lt hb')]
      exact (hf b hb).1
  done := by
    intro X hP hw hK hc i pins s σ H E I hf st hg
    subst hP hw hK
    obtain ⟨⟨old, he⟩, hit, hne⟩ := st
    obtain ⟨xs, hq, hx⟩ := hg
    obtain ⟨its, rv, p, hz⟩ := I.tuple hq
    obtain ⟨f0, f1, f2, f3, f4, f5⟩ := hf it (by simp)
    have hl := rv.length
    have hai : a ≠ it := by obtain ⟨o, ho, hcl, _⟩ := id p; obtain ⟨o2, ho2, hcl2, _⟩ := id hit; exact cls_ne ho ho2 hcl hcl2 (by decide)
    have D0 : Draws X.prog X.w X.A.in1 it [it, a] i (fun _ _ => True) (fun j h => j = i ∧ h.IsTupleIter it a j ∧ h.IsTuple a its.toArray) :=
      { live := fun _ _ st => let ⟨o, ho, _⟩ := st.2.1; ⟨o, ho⟩
        frame := fun _ _ _ st hk => ⟨st.1, st.2.1.at fun o e => hk it (by simp) o e, st.2.2.at fun o e => hk a (by simp) o e⟩
        item := fun j s Q E hj st hQ => absurd st.1 (Nat.ne_of_lt hj)
        done := fun s Q E st hE => wpAny_nextOf_tuple_end (I.ok.hd hc) st.2.1 st.2.2 (by simp; omega) hE }
    exact wpAny_pyNext_enum_endD D0 he ⟨rfl, hit, p⟩ fun h' eb => ⟨rfl, I.turned (t' := s.toks) (fun b o hb q => eb b o hb q) f0 f1 f3 f4 f5⟩
  self := fun A i s Q E st h => let ⟨⟨_, he⟩, _⟩ := st; wpAny_pyIter_enum he h
theorem turn_enumS {P : Program} {w : World} {K : PySem.W.Frag} {elts : List Expr} {kk : Nat} {tpos : Pos} (z : Str) (t : Tok) (e it : Addr) :
    Turn P w K (.Tuple elts kk tpos) (IteS z) [e, it] e (fun i h => (∃ old, IsEnum h e it ((i : Nat) : Int) old) ∧ h.IsStrIter it (strIterType z) z t i ∧ e ≠ it) where
  mem := by simp
  obj := fun i h st b hb => by
    obtain ⟨⟨old, he⟩, ⟨o, ho, hc, hd⟩, _⟩ := st
    have e' : b = e ∨ b = it := by simpa using hb
    rcases e' with z | z
    · rw [z]; exact ⟨_, he, fun v q => nomatch q⟩
    · rw [z]; exact ⟨o, ho, fun v q => by rw [hd] at q; cases q⟩
  keep := fun i h h' st k => let ⟨⟨old, he⟩, ⟨o, ho, r⟩, hne⟩ := st; ⟨⟨old, k e (by simp) _ he⟩, ⟨o, k it (by simp) o ho, r⟩, hne⟩
  item := by
    intro X hP hw hK hc i pins s σ H E I hf st hg
    subst hP hw hK
    obtain ⟨⟨old, he⟩, hit, hne⟩ := st
    obtain ⟨c, hx⟩ := hg
    have hel : e < s.heap.objs.size := Heap.lt_size he
    have hil : it < s.heap.objs.size := by obtain ⟨_, q, _⟩ := hit; exact Heap.lt_size q
    have hd := I.ok.hd hc
    have hlt : i < z.cps.size := by
      obtain ⟨h1, _⟩ := Array.getElem?_eq_some_iff.mp hx
      exact h1
    refine wpAny_pyNext_enum_itemD (Draws.text (A := X.A.in1) hd it z t) he hit hlt hne (by simp [hne]) fun y h' tk hy ho hst hT hsz hk => ?_
    obtain ⟨c', u, hc', rfl⟩ := hy
    rw [hx] at hc'
    cases hc'
    refine ⟨_, rfl, wpAny_letOwnedTupleGo_enum (s := { s with heap := h', toks := tk + 1 }) ho fun h'' he' sb => ?_⟩
    have hT2 : h''.get? s.heap.objs.size = some { cls := .type "tuple", data := .seq #[.int i tk, .str ⟨#[c]⟩ u] } := (sb.2 _ (Nat.ne_of_gt hel)).trans hT
    have new : ObjOk X.prog X.w (upd H s.heap.objs.size (.tup [.int (i : Nat), .str ⟨#[c]⟩])) h'' s.heap.objs.size (.tup [.int (i : Nat), .str ⟨#[c]⟩]) :=
      ⟨by show 2 ≤ sizeLine; decide, [.int i tk, .str ⟨#[c]⟩ u], .cons ⟨_, rfl⟩ (.cons ⟨_, rfl⟩ .nil), ⟨_, hT2, rfl, _, rfl⟩⟩
    have I1 : Inv X pins σ (upd H s.heap.objs.size (.tup [.int (i : Nat), .str ⟨#[c]⟩])) { s with heap := h'', toks := tk + 1 } :=
      I.turnedNew (ch := [e, it]) (fun b ob hb q => (sb.2 b (fun z => hb (by simp [z]))).trans (hk b ob (fun z => hb (by simp [z])) (fun z => hb (by simp [z])) q)) hf (Nat.le_refl _) new
    refine ⟨.ref s.heap.objs.size, _, I1, rfl, ⟨_, c, rfl, I.hok.fresh (Nat.le_refl _), rfl, hx⟩, ⟨⟨.str ⟨#[c]⟩ u, ?_⟩, ?_, hne⟩, fun b hb => ?_⟩
    · have e1 : ((i + 1 : Nat) : Int) = (i : Int) + 1 := by omega
      rw [e1]; exact he'
    · obtain ⟨o, ho, r⟩ := hst
      exact ⟨o, (sb.2 it (Ne.symm hne)).trans ho, r⟩
    · have hb' : b < s.heap.objs.size := by
        have e' : b = e ∨ b = it := by simpa using hb
        rcases e' with z | z
        · rw [z]; exact hel
        · rw [z]; exact hil
      rw [upd_ne (Nat.ne_of_lt hb')]
      exact (hf b hb).1
  done := by
    intro X hP hw hK hc i pins s σ H E I hf st hg
    subst hP hw hK
    obtain ⟨⟨old, he⟩, hit, hne⟩ := st
    have hx : z.cps.size ≤ i := hg
    obtain ⟨f0, f1, f2, f3, f4, f5⟩ := hf it (by simp)
    have D0 : Draws X.prog X.w X.A.in1 it [it] i (fun _ _ => True) (fun j h => j = i ∧ h.IsStrIter it (strIterType z) z t j) :=
      { live := fun _ _ st => let ⟨o, ho, _⟩ := st.2; ⟨o, ho⟩
        frame := fun _ _ _ st hk => ⟨st.1, let ⟨o, ho, r⟩ := st.2; ⟨o, hk it (by simp) o ho, r⟩⟩
        item := fun j s Q E hj st hQ => absurd st.1 (Nat.ne_of_lt hj)
        done := fun s Q E st hE => by
          have h2 := st.2
          cases ha : z.cps.all (· < 128)
          · simp only [strIterType, ha, Bool.false_eq_true, if_false] at h2
            exact wpAny_nextOf_wide_end (I.ok.hd hc) h2 (by simp; omega) hE
          · simp only [strIterType, ha, if_true] at h2
            exact wpAny_nextOf_ascii_end (I.ok.hd hc) h2 (by simp; omega) hE }
    exact wpAny_pyNext_enum_endD D0 he ⟨rfl, hit⟩ fun h' eb => ⟨rfl, I.turned (t' := s.toks) (fun b o hb q => eb b o hb q) f0 f1 f3 f4 f5⟩
  self := fun A i s Q E st h => let ⟨⟨_, he⟩, _⟩ := st; wpAny_pyIter_enum he h
/-- enumerate of a list, a tuple, a text -/
def iEnum3 (K : PySem.W.Frag) (ta : TA) : TI := fun σ H R => ta σ H fun vs H1 => (∃ a xs, vs = [.ref a] ∧ ((SqL K H1 a xs ∧ R (Ite K a) H1) ∨ (SqT K H1 a xs ∧ R (IteT K a) H1))) ∨ ∃ z, vs = [.str z] ∧ R (IteS z) H1
theorem pi_enum3 {X : Cx} {e : Expr} {ta : TA} {p pos tpos : Pos} {elts : List Expr} {kk : Nat} (hg : Gl X "enumerate") (hm : X.mg "enumerate" = none) (ha : PA X [e] ta) (hs : starEach [e] X.env = [(false, eval e X.env)] := by rfl) :
    PI X (.Tuple elts kk tpos) (.Call (.Name "enumerate" p) [e] [] pos) (iEnum3 X.K ta) := by
  refine ⟨fun pins s σ H R I h => ?_⟩
  refine Call_ (ld_blt I hg hm boot_enumerate (PyProof.Rows.callWith_type1 (thn (ha.run pos pins s σ H _ I h) fun us s1 ⟨vs, H1, I1, r1, q1⟩ => ?_) hs rfl))
  have own : ∀ b ∈ [s1.heap.objs.size + 1, s1.heap.objs.size], s1.heap.objs.size ≤ b := fun b hb => by
    have e' : b = s1.heap.objs.size + 1 ∨ b = s1.heap.objs.size := by simpa using hb
    rcases e' with z | z
    · rw [z]; exact Nat.le_add_right _ _
    · rw [z]; exact Nat.le_refl _
  rcases q1 with ⟨a, xs, ex, q⟩ | ⟨z, ex, q⟩
  · subst ex
    cases r1 with
    | cons r rr =>
      cases rr
      cases r
      rcases q with ⟨hq, q⟩ | ⟨hq, q⟩
      · obtain ⟨its, rv, p', hz⟩ := I1.list hq
        refine call_enumerate_list p'.isList fun h' he hit hsz hk => wpAny_pyIter_enum he ?_
        have I2 : Inv X pins σ H1 { s1 with heap := h' } := I1.kept (t' := s1.toks) hk
        exact ⟨s1.heap.objs.size + 1, [s1.heap.objs.size + 1, s1.heap.objs.size], _, _, H1, rfl, I2, turn_enum a (s1.heap.objs.size + 1) s1.heap.objs.size, ⟨⟨.none, he⟩, hit, Nat.succ_ne_self _⟩, fun b hb => I1.fpOk (own b hb) (I1.hok.fresh (own b hb)), q⟩
      · obtain ⟨its, rv, p', hz⟩ := I1.tuple hq
        refine call_enumerate_tuple p' fun h' he hit hsz hk => wpAny_pyIter_enum he ?_
        have I2 : Inv X pins σ H1 { s1 with heap := h' } := I1.kept (t' := s1.toks) hk
        exact ⟨s1.heap.objs.size + 1, [s1.heap.objs.size + 1, s1.heap.objs.size], _, _, H1, rfl, I2, turn_enumT a (s1.heap.objs.size + 1) s1.heap.objs.size, ⟨⟨.none, he⟩, hit, Nat.succ_ne_self _⟩, fun b hb => I1.fpOk (own b hb) (I1.hok.fresh (own b hb)), q⟩
  · subst ex
    cases r1 with
    | cons r rr =>
      cases rr
      obtain ⟨t, rfl⟩ := r
      refine call_enumerate_str fun h' he hit hsz hk => wpAny_pyIter_enum he ?_
      have I2 : Inv X pins σ H1 { s1 with heap := h' } := I1.kept (t' := s1.toks) hk
      exact ⟨s1.heap.objs.size + 1, [s1.heap.objs.size + 1, s1.heap.objs.size], _, _, H1, rfl, I2, turn_enumS z t (s1.heap.objs.size + 1) s1.heap.objs.size, ⟨⟨.none, he⟩, hit, Nat.succ_ne_self _⟩, fun b hb => I1.fpOk (own b hb) (I1.hok.fresh (own b hb)), q⟩
end PyEv

set_option maxRecDepth 100000
set_option maxHeartbeats 2000000
/-! PyB7: max, min, isinstance, subscripts, slices, methods that change, displays of dicts, list(range(..)). -/
namespace PyEv
open PySem L2
variable [TabL]
section
variable {X : Cx} {xi : XI} {W : WX} {lv : Nat}

theorem arg2 {σ : St} {H : Hp} {Q : VK} {ta tb : TE} {r : List V → Hp → VK → Prop} (h : tOp (fun x y H Q => r [x, y] H Q) ta tb σ H Q) : tCB r (tCons ta (tCons tb tNil)) σ H Q := h

/-! ### max(a, b), min(a, b) -/
def rMM (mx : Bool) : List V → Hp → VK → Prop := fun xs H Q => ∃ i j, xs = [.int i, .int j] ∧ Q (.int (if mx = true then (if j > i then j else i) else (if j < i then j else i))) H
theorem call_mm (c : CxOk X lv) (mx : Bool) : CallR X (.builtin (if mx = true then "max" else "min")) (rMM mx) := by
  cases mx with
  | true => exact fun pins s σ H xs us Q I r ⟨i, j, e, q⟩ => call_max2 c.calm pins s σ H xs us Q I r ⟨i, j, e, q⟩
  | false => exact fun pins s σ H xs us Q I r ⟨i, j, e, q⟩ => call_min2 c.calm pins s σ H xs us Q I r ⟨i, j, e, q⟩
theorem snd_mm (c : CxOk X lv) {nm : Nms} (n : NmOk X nm) {mx : Bool} {x : Str} {a b : Expr} {ra rb : Env → Res Ar} {p pos : Pos} (hx : Str.ofString (if mx = true then "max" else "min") = x) (hg : glB nm x = true) (hp : plainX a = true) (hp2 : plainX b = true)
    (ha : Snd X xi W a ra) (hb : Snd X xi W b rb) : Snd X xi W (.Call (.Name x p) [a, b] [] pos) (fun env => (ra env).bind fun x env => (rb env).bind fun y env => match use env x, use env y with
      | some (.int i), some (.int j) => .ok (.val (.d (.int (if mx = true then (if j > i then j else i) else (if j < i then j else i))))) env
      | _, _ => .bad) := by
  subst hx
  have hs := starEach_plain (xs := [b]) (env := X.env) hp
  have hs2 := starEach_plain (xs := []) (env := X.env) hp2
  have pe : PE X (.Call (.Name (Str.ofString (if mx = true then "max" else "min")) p) [a, b] [] pos) (tCB (rMM mx) (tCons (tG X.K X.w xi W RAr ra) (tCons (tG X.K X.w xi W RAr rb) tNil))) := by
    have h := call_mm c mx
    have hpl : (backTo pos (starEach [b] X.env)).any (·.1) = false := by rw [hs2]; rfl
    cases mx with
    | true => exact pe_callB h (n.gl _ hg) (c.blt "max" (by decide)) (by decide +kernel) (pa_cons ha.pe (pa_cons hb.pe pa_nil hs2) hs) (by decide) (by decide) hs hpl
    | false => exact pe_callB h (n.gl _ hg) (c.blt "min" (by decide)) (by decide +kernel) (pa_cons ha.pe (pa_cons hb.pe pa_nil hs2) hs) (by decide) (by decide) hs hpl
  refine Snd.of_pe rfl (impE pe fun σ H Q q => arg2 (two q fun Hf L x y env vx vy T Hf2 H2 L2 sl st fam vwx vwy fin => ?_))
  cases ex : use env x with
  | none => simp only [ex] at fin; exact fin.elim
  | some dx =>
    cases ey : use env y with
    | none => cases dx <;> (simp only [ex, ey] at fin; exact fin.elim)
    | some dy =>
      cases dx <;> first | (simp only [ex, ey] at fin; exact fin.elim) | skip
      cases dy <;> first | (simp only [ex, ey] at fin; exact fin.elim) | skip
      simp only [ex, ey] at fin
      exact ⟨_, _, by rw [(vwx _ ex).int, (vwy _ ey).int], fin_d fin sl st fam (.int _)⟩

/-! ### isinstance -/
def tyT : D → String
  | .non => "NoneType"
  | .bl _ => "bool"
  | .int _ => "int"
  | .str _ => "str"
  | .tup _ => "tuple"
  | .lst _ => "list"
  | .dct .. => "dict"
  | _ => ""
theorem View.ty {Hf H : Hp} {d : D} {v : V} (h : View X.K X.w Hf H d v) (s : Same Hf H) (hd : ∀ ns, d ≠ .scr ns) (he : ∀ c x, d ≠ .exc c x) : TyX X.K H v (.type (tyT d)) := by
  cases h with
  | lst e _ => exact .base (.lst e)
  | dct e _ _ => exact .base (.dK e)
  | den h =>
    cases h with
    | non => exact .base .non
    | bl b => exact .base (.bl b)
    | int i => exact .base (.int i)
    | str z => exact .base (.str z)
    | tup e _ =>
      rcases e with (e | ⟨o, e⟩) | ⟨o, _, _, e, c, _⟩
      · exact .base (.tup (s _ _ e))
      · exact .fTuple (s _ _ e)
      · exact .kTuple e c
    | lst e _ => exact .base (.lst (s _ _ e))
    | dct e _ _ => exact .base (.dK (s _ _ e))
    | kdct kd _ =>
      obtain ⟨es, n, k, _⟩ := kd.ex
      exact .kDict k.at_ rfl
    | scr e => exact absurd rfl (hd _)
    | exc _ _ _ _ => exact absurd rfl (he _ _)
theorem isTy_kit {K : PySem.W.Frag} {d : D} {t : Ty} {b : Bool} (e : d.isTy t = some b) : PySem.W.kitOne K (.type (tyT d)) (.type (tyName t)) = some b := by
  cases t <;> cases d <;> first
    | (cases e; done)
    | (obtain rfl := Option.some.inj e; exact kit_ty (by kernel_rfl))
theorem isTy_scr {d : D} {t : Ty} {b : Bool} (e : d.isTy t = some b) : ∀ ns, d ≠ .scr ns := by
  intro ns h
  subst h
  cases t <;> cases e
theorem isTy_exc {d : D} {t : Ty} {b : Bool} (e : d.isTy t = some b) : ∀ c x, d ≠ .exc c x := by
  intro c x h
  subst h
  cases t <;> cases e
theorem snd_isi (c : CxOk X lv) {nm : Nms} (n : NmOk X nm) {t : Ty} {x y : Str} {a : Expr} {ra : Env → Res Ar} {p p2 pos : Pos} (hx : Str.ofString "isinstance" = x) (hg : glB nm x = true) (hp : plainX a = true) (hy : Str.ofString (tyName t) = y) (hgy : glB nm y = true)
    (ha : Snd X xi W a ra) : Snd X xi W (.Call (.Name x p) [a, .Name y p2] [] pos) (fun env => (ra env).bind fun x env => match use env x with
      | some dx => Res.of ((dx.isTy t).map fun b => .val (.d (.bl b))) env
      | none => .bad) := by
  subst hx hy
  have hs := starEach_plain (xs := [.Name (Str.ofString (tyName t)) p2]) (env := X.env) hp
  have pt : PE X (.Name (Str.ofString (tyName t)) p2) (tC (.ty (tyName t))) := by
    cases t <;> exact pe_bltn (n.gl _ hgy) (c.blt _ (by decide)) (by decide +kernel) rfl (by decide) (by decide)
  refine Snd.of_pe rfl (impE (pe_callB call_isi (n.gl _ hg) (c.blt "isinstance" (by decide)) (by decide +kernel) (pa_cons ha.pe (pa_cons pt pa_nil) hs) (by decide) (by decide) hs rfl) fun σ H Q q => ?_)
  have q' : tG X.K X.w xi W RAr (fun env => (ra env).bind fun x env => match use env x with
      | some dx => Res.of (((dx.isTy t).map fun b => PyEv.W.d (.bl b)).map Ar.val) env
      | none => .bad) σ H Q := tG_congr (fun env => by
    congr 1
    funext x e
    cases use e x with
    | none => rfl
    | some d =>
      show Res.of ((d.isTy t).map fun b => Ar.val (PyEv.W.d (.bl b))) e = Res.of (((d.isTy t).map fun b => PyEv.W.d (.bl b)).map Ar.val) e
      rw [Option.map_map]
      rfl) q
  refine one1 (f := fun d => (d.isTy t).map fun b => PyEv.W.d (.bl b)) (r := fun v H Q => rIsi X.K [v, .ty (tyName t)] H Q) q' fun Hf L d y env v T Hf2 H2 L2 sl st fam vw e fin => ?_
  cases eb : d.isTy t with
  | none => rw [eb] at e; cases e
  | some b =>
    rw [eb] at e
    obtain rfl := Option.some.inj e
    exact ⟨v, _, _, _, b, rfl, .ty _, vw.ty st.sub (isTy_scr eb) (isTy_exc eb), isTy_kit eb, fin_bl fin sl st fam⟩

/-! ### a[i] -/
theorem plainIx_of {b : Expr} (h : notSl b = true) : PlainIx b := by
  cases b <;> first | exact fun _ _ => rfl | cases h
def rIxAll (K : PySem.W.Frag) (w : World) : R2 := fun x y H Q => rIx K x y H Q ∨ ((∃ a z v, x = .ref a ∧ y = .str z ∧ DGet H a y (some v) ∧ Q v H) ∨ rIxD K w x y H Q)
theorem ix_d1 (hu : X.A.units + 1 < cLine) : IxR X (fun x y H Q => ∃ a z v, x = .ref a ∧ y = .str z ∧ DGet H a y (some v) ∧ Q v H) := by
  intro value slice pins s σ H x y v u Q I rx ry h hs
  obtain ⟨a, z, v0, rfl, rfl, g, q⟩ := h
  obtain rfl : v = Value.ref a := rx
  have hd : IsD H a := by
    rcases g with ⟨kvs, k, e, _⟩ | ⟨kvs, k, b, e, _⟩
    · exact .inl ⟨_, e⟩
    · exact .inr ⟨_, e⟩
  obtain ⟨ty, _, _⟩ := isD_at I hd
  exact PyProof.Rows.tail_any ty PySem.slot_dict_getitem.lookup (d_getItem hu I g ry fun w' s' I' rw' => ⟨v0, H, I', rw', q⟩) hs
theorem ix_all (c : CxOk X lv) : IxR X (rIxAll X.K X.w) := ix_seq.or ((ix_d1 (by have := c.room.un; omega)).or ix_kdict)
theorem atI_den {K : PySem.W.Frag} {w : World} {Hf : Hp} {ds : List D} {vs : List V} {i : Int} {d : D} (l : DenL K w Hf ds vs) (e : atI ds i = some d) : ∃ v, atI vs i = some v ∧ Den K w Hf d v := by
  unfold atI at e ⊢
  rw [← l.length]
  cases h : ixN ds.length i with
  | none => rw [h] at e; cases e
  | some j => rw [h] at e; exact l.get e
theorem atI_map {α β : Type} (f : α → β) {xs : List α} {i : Int} : atI (xs.map f) i = (atI xs i).map f := by
  unfold atI
  rw [List.length_map]
  cases ixN xs.length i with
  | none => rfl
  | some j => show (xs.map f)[j]? = _; rw [List.getElem?_map]; rfl
theorem look_den {K : PySem.W.Frag} {w : World} {Hf : Hp} : ∀ {ks : List Str} {ds : List D} {us : List V} {x : Str} {d : D}, DenL K w Hf ds us → (ks.zip ds).lookup x = some d → ∃ v, (ks.zip us).lookup x = some v ∧ Den K w Hf d v
  | [], _, _, _, _, _, e => by cases e
  | _ :: _, [], _, _, _, _, e => by cases e
  | k :: ks, _ :: _, _, x, d, .cons a b, e => by
    rw [List.zip_cons_cons, List.lookup_cons] at e ⊢
    cases h : x == k
    · rw [h] at e; exact look_den b e
    · rw [h] at e; cases e; exact ⟨_, rfl, a⟩
theorem ix_fin {σ : St} {Hf H Hf1 H1 : Hp} {L M L1 : List WV} {env1 : Env} {Q : VK} {dx dy d : D} {vx vy : V}
    (sl : Sl env1 σ L1) (st : Step Hf H L Hf1 H1 (M ++ L1)) (fam : Fam X.K X.w Hf1 H1 (M ++ L1)) (vwx : View X.K X.w Hf1 H1 dx vx) (vwy : View X.K X.w Hf1 H1 dy vy) (e : ixF dx dy = some d)
    (fin : Fin X.K X.w xi W RAr σ Hf H L (.ok (.val (.d d)) env1) Q) : rIxAll X.K X.w vx vy H1 Q := by
  cases dx <;> cases dy <;> first | (cases e; done) | skip
  · rename_i z i
    by_cases hz : z.length ≤ line
    · have e' : (atI z.cps.toList i).map (fun c => D.str ⟨#[c]⟩) = some d := by rw [← show ixF (.str z) (.int i) = _ from if_pos hz]; exact e
      cases h : atI z.cps.toList i with
      | none => rw [h] at e'; cases e'
      | some k =>
        rw [h] at e'
        obtain rfl := Option.some.inj e'
        exact .inl (.inr (.inr ⟨z, i, k, vwx.str, vwy.int, hz, h, fin_d fin sl st fam (.str _)⟩))
    · rw [show ixF (.str z) (.int i) = none from if_neg hz] at e; cases e
  · obtain ⟨p, vs, rfl, hp, l⟩ := vwx.tup' st.sub
    obtain ⟨v, h1, h2⟩ := atI_den l e
    exact .inl (.inr (.inl ⟨p, vs, _, v, rfl, vwy.int, hp, h1, fin_d fin sl st fam h2⟩))
  · obtain ⟨p, vs, rfl, hp, l⟩ := vwx.lst' st.sub
    obtain ⟨v, h1, h2⟩ := atI_den l e
    exact .inl (.inl ⟨p, vs, _, v, rfl, vwy.int, SqL.of hp, h1, fin_d fin sl st fam h2⟩)
  · rename_i ks ds z
    obtain rfl := vwy.str
    have trk : ∀ (a : Addr) (kvs : List (Key × V)), vx = .ref a → H1 a = some (.dK kvs) → kvs.map (·.1) = ks.map Sum.inr → DenL X.K X.w Hf1 ds (kvs.map (·.2)) → rIxAll X.K X.w vx (.str z) H1 Q := fun a kvs ex hh hk l => by
      subst ex
      obtain ⟨v, h1, h2⟩ := look_den l e
      have g : DGet H1 a (.str z) (valV kvs (Sum.inr z)) := DGet.k (k := Sum.inr z) hh
      rw [kvs_look hk, h1] at g
      exact .inr (.inl ⟨a, z, v, rfl, rfl, g, fin_d fin sl st fam h2⟩)
    cases vwx with
    | den dn =>
      cases dn with
      | dct hh hk l => exact trk _ _ rfl (st.sub _ _ hh) hk l
      | @kdct a _ _ us kd l =>
        obtain ⟨v, h1, h2⟩ := look_den l e
        obtain ⟨u, hu, ru⟩ := kd.yes z v h1
        obtain ⟨es, n, k, _⟩ := kd.ex
        exact .inr (.inr ⟨a, z, v, rfl, rfl, ⟨es, n, u, k.at_, k.lit, hu, ru⟩, fin_d fin sl st fam h2⟩)
    | dct hh hk l => exact trk _ _ rfl hh hk l
  · rename_i ns i
    obtain ⟨p, rfl, hp⟩ := vwx.scr' st.sub
    have e' : (atI ns i).map D.int = some d := e
    cases h : atI ns i with
    | none => rw [h] at e'; cases e'
    | some k =>
      rw [h] at e'
      obtain rfl := Option.some.inj e'
      exact .inl (.inl ⟨p, _, i, .int k, rfl, vwy.int, hp, by rw [atI_map, h]; rfl, fin_d fin sl st fam (.int _)⟩)
theorem snd_ix (c : CxOk X lv) {a i : Expr} {ra rb : Env → Res Ar} {pos : Pos} (hi : notSl i = true) (ha : Snd X xi W a ra) (hb : Snd X xi W i rb) :
    Snd X xi W (.Subscript a i pos) (fun env => (ra env).bind fun x env => (rb env).bind fun y env => match use env x, use env y with
      | some dx, some dy => Res.of ((ixF dx dy).map fun d => .val (.d d)) env
      | _, _ => .bad) := by
  refine Snd.of_pe rfl (impE (pe_ix (ix_all c) ha.pe hb.pe (plainIx_of hi)) fun σ H Q q => two q fun Hf L x y env vx vy T Hf2 H2 L2 sl st fam vwx vwy fin => ?_)
  cases ex : use env x with
  | none => simp only [ex] at fin; exact fin.elim
  | some dx =>
    cases ey : use env y with
    | none => simp only [ex, ey] at fin; exact fin.elim
    | some dy =>
      simp only [ex, ey] at fin
      cases ec : ixF dx dy with
      | none => rw [ec] at fin; exact fin.elim
      | some d =>
        rw [ec] at fin
        exact ix_fin sl st fam (vwx dx ex) (vwy dy ey) ec fin

/-! ### a[lo:hi] -/
def RP : RR (Option Int) (Option Int) := fun _ _ a b T => a = b ∧ T = []
theorem po_of {lo : E} {l : Option Expr} {rl : Env → Res Ar} (h : match l with | none => lo.isNone = true | some x => lo.isNone = false ∧ Snd X xi W x rl) :
    PO X l (tG X.K X.w xi W RP (fun env => if lo.isNone = true then .ok none env else (rl env).bind partB)) := by
  cases l with
  | none =>
    have h : lo.isNone = true := h
    refine ⟨fun pins s σ H Q I q => po_none.run pins s σ H Q I ?_⟩
    obtain ⟨Hf, env, L, s0, fin⟩ := q
    simp only [h, if_true] at fin
    exact fin none [] Hf H L ⟨rfl, rfl⟩ s0.sl (Step.refl s0.sub) s0.fam
  | some x =>
    obtain ⟨h1, h2⟩ : lo.isNone = false ∧ Snd X xi W x rl := h
    refine ⟨fun pins s σ H Q I q => (po_some h2.pe).run pins s σ H Q I ?_⟩
    have q' : tG X.K X.w xi W RP (fun env => (rl env).bind partB) σ H Q := tG_congr (fun env => by rw [h1]; rfl) q
    refine bindF (R1 := RAr) (R2 := RP) q' fun Hf L a env1 v T1 Hf1 H1 L1 r1 sl1 st1 fam1 fin => ?_
    have fin : Fin X.K X.w xi W RP σ Hf H L (match use env1 a with | some (.int i) => .ok (some i) env1 | _ => .bad) Q := fin
    cases e : use env1 a with
    | none => rw [e] at fin; exact fin.elim
    | some d =>
      cases d <;> first | (rw [e] at fin; exact fin.elim) | skip
      rw [e] at fin
      exact ⟨_, (use_view r1 (fun _ h => h) sl1 fam1 e).int, fin (some _) [] Hf1 H1 L1 ⟨rfl, rfl⟩ sl1 (st1.less fun b q => Owned.append.mpr (.inr q)) (fam1.sub (List.sublist_append_right _ _))⟩
def rSlAll (K : PySem.W.Frag) : V → Option Int → Option Int → Hp → VK → Prop := fun x lo hi H Q => (rSlL K x lo hi H Q ∨ rSlA K x lo hi H Q) ∨ rSlS x lo hi H Q
theorem cut_den {K : PySem.W.Frag} {w : World} {Hf : Hp} {ds : List D} {vs : List V} {lo hi : Option Int} (l : DenL K w Hf ds vs) : DenL K w Hf (cutD ds lo hi) (cutV vs lo hi) := by
  unfold cutD cutV
  rw [← l.length]
  exact (l.drop _).take _
theorem cut_whole {ds : List D} {lo hi : Option Int} (h : HT.sIx ds.length 0 lo = 0 ∧ HT.sIx ds.length ds.length hi = ds.length) : cutD ds lo hi = ds := by
  unfold cutD
  rw [h.1, h.2, List.drop_zero, Nat.sub_zero, List.take_length]
theorem snd_slc (c : CxOk X lv) {a : Expr} {lo hi : E} {l h : Option Expr} {ra rl rh : Env → Res Ar} {p2 pos : Pos} (ha : Snd X xi W a ra) (hl : match l with | none => lo.isNone = true | some x => lo.isNone = false ∧ Snd X xi W x rl)
    (hh : match h with | none => hi.isNone = true | some x => hi.isNone = false ∧ Snd X xi W x rh) : Snd X xi W (.Subscript a (.Slice l h none p2) pos) (fun env => (ra env).bind fun x env => (if lo.isNone = true then .ok none env else (rl env).bind partB).bind fun l env =>
      (if hi.isNone = true then .ok none env else (rh env).bind partB).bind fun h env => match use env x with
        | some dx => Res.of ((slcF dx l h).map .val) env
        | none => .bad) := by
  refine Snd.of_pe rfl (impE (pe_slice ((sl_list.or sl_tupA).or sl_str) ha.pe (po_of hl) (po_of hh)) fun σ H Q q => ?_)
  refine bindF (R1 := RAr) (R2 := RAr) q fun Hf L x env1 vx T1 Hf1 H1 L1 r1 sl1 st1 fam1 fin => ?_
  refine bindG (R1 := RP) (R2 := RAr) (T := T1) st1 fam1 sl1 fin fun l1 env2 l2 T2 Hf2 H2 L2 r2 sl2 st2 fam2 _ fin2 => ?_
  obtain ⟨rfl, rfl⟩ := r2
  rw [List.nil_append] at st2 fam2
  refine bindG (R1 := RP) (R2 := RAr) (T := T1) st2 fam2 sl2 fin2 fun h1 env3 h2 T3 Hf3 H3 L3 r3 sl3 st3 fam3 _ fin3 => ?_
  obtain ⟨rfl, rfl⟩ := r3
  rw [List.nil_append] at st3 fam3
  cases e : use env3 x with
  | none => simp only [e] at fin3; exact fin3.elim
  | some d =>
    simp only [e] at fin3
    have vw := use_view r1 (fun _ h => h) sl3 fam3 e
    cases d <;> first | exact fin3.elim | skip
    · rename_i z
      by_cases hz : z.length ≤ line
      · rw [show slcF (.str z) l1 h1 = some (.d (.str (cutS z l1 h1))) from if_pos hz] at fin3
        exact .inr ⟨z, vw.str, hz, fin_d fin3 sl3 st3 fam3 (.str _)⟩
      · rw [show slcF (.str z) l1 h1 = none from if_neg hz] at fin3; exact fin3.elim
    · obtain ⟨p, vs, rfl, hp, ll⟩ := vw.tup' st3.sub
      refine .inl (.inr ⟨p, vs, rfl, hp, fun hw => ?_, fun _ q hq => fin_tup fin3 sl3 st3 fam3 (cut_den ll) hq⟩)
      rw [← ll.length] at hw
      have fin4 : Fin X.K X.w xi W RAr σ Hf H L (.ok (.val (.d (.tup (cutD _ l1 h1)))) env3) Q := fin3
      rw [cut_whole hw] at fin4
      cases vw with
      | den dn => exact fin_d fin4 sl3 st3 fam3 dn
    · obtain ⟨p, vs, rfl, hp, ll⟩ := vw.lst' st3.sub
      exact .inl (.inl ⟨p, vs, rfl, SqL.of hp, fun q hq => fin_lst fin3 sl3 st3 fam3 (cut_den ll) hq⟩)
end
end PyEv

set_option maxRecDepth 100000
set_option maxHeartbeats 2000000
/-! PyB8: methods that change, displays of dicts, list(range(..)). -/
namespace PyEv
open PySem L2
variable [TabL]
section
variable {X : Cx} {xi : XI} {W : WX} {lv : Nat}

/-! ### methods that change the list in a slot -/
def rMut : Mm → V → List V → Hp → VK → Prop
  | .append => rAppend
  | .extend => rExtend
  | .popAt => rPopAt
theorem mut_fin {m : Mm} {σ : St} {Hf H Hf1 H1 : Hp} {L L1 : List WV} {env1 : Env} {Q : VK} {i : Nat} {v : V} {ds : List D} {vs : List V}
    (sl : Sl env1 σ L1) (st : Step Hf H L Hf1 H1 L1) (fam : Fam X.K X.w Hf1 H1 L1) (hv : σ[i]? = some (some v)) (dn : DenL X.K X.w Hf1 ds vs)
    (fin : Fin X.K X.w xi W RAr σ Hf H L (match slot env1 i with
      | some w => match mutF m w ds with
        | some (y, w') => .ok (.val (.d y)) (env1.set i (some w'))
        | none => .bad
      | none => .bad) Q) : rMut m v vs H1 Q := by
  cases es : slot env1 i with
  | none => rw [es] at fin; exact fin.elim
  | some x =>
    simp only [es] at fin
    obtain ⟨u, N, h1, h2, p⟩ := sl.out es
    rw [hv] at h1; cases h1
    have famP := fam.perm p
    have stP : Step Hf H L Hf1 H1 ((x, v) :: N) := st.less fun b q => (Owned.perm p).mpr q
    cases em : mutF m x ds with
    | none => simp only [em] at fin; exact fin.elim
    | some yw =>
      obtain ⟨y, w'⟩ := yw
      simp only [em] at fin
      -- the end: what is given, what the list is then
      have fin_w : ∀ (xs xs' : List D) (us us' : List V) (a : Addr) (yv : V), x = .lst xs → w' = .lst xs' → v = .ref a → H1 a = some (.lst us) → DenL X.K X.w Hf1 xs' us' → Den X.K X.w Hf1 y yv → Q yv (upd H1 a (.lst us')) := fun xs xs' us us' a yv ex ew ev hh l' dy => by
        subst ex ev ew
        obtain ⟨hn, _⟩ := (famP.rep _ List.mem_cons_self).own (a := a) (by simp [ad]) |>.2
        obtain ⟨s2, f2⟩ := write_own (o := .lst us') (y := .lst xs') stP.sub famP (by simp [ad]) (fun b hb => by simpa [ad] using hb) (.lst upd_same hn l')
        obtain ⟨L3, g1, g2⟩ := h2.into (x := .lst xs') hv
        refine fin yv [(.d y, yv)] Hf1 (upd H1 a (.lst us')) L3 .val g1 ((stP.tr s2).less fun b q => ?_) (((f2.perm g2.symm)).cons_d dy)
        rcases Owned.cons.mp q with q | q
        · cases q
        · exact (Owned.perm g2).mp q
      have isL : ∀ (xs : List D), x = .lst xs → ∃ a us, v = .ref a ∧ H1 a = some (.lst us) ∧ DenL X.K X.w Hf1 xs us := fun xs ex => by
        subst ex
        have r := famP.rep _ List.mem_cons_self
        cases r with
        | lst e n l => exact ⟨_, _, rfl, e, l⟩
      unfold mutF at em
      split at em
      · rename_i xs d
        split at em
        · rename_i hz
          cases em
          obtain ⟨a, us, rfl, hh, l⟩ := isL xs rfl
          cases dn with
          | cons a1 b1 =>
            cases b1
            exact ⟨a, us, _, rfl, rfl, hh, by rw [← l.length]; exact hz, fin_w xs _ us _ a .non rfl rfl rfl hh (l.append (.cons a1 .nil)) .non⟩
        · cases em
      · rename_i xs ys
        split at em
        · rename_i hz
          cases em
          obtain ⟨a, us, rfl, hh, l⟩ := isL xs rfl
          cases dn with
          | cons a1 b1 =>
            cases b1
            cases a1 with
            | @lst b _ zs hb lz => exact ⟨a, b, us, zs, rfl, rfl, hh, stP.sub _ _ hb, by rw [← l.length, ← lz.length]; exact hz, fin_w xs _ us _ a .non rfl rfl rfl hh (l.append lz) .non⟩
        · cases em
      · rename_i xs k
        split at em
        · rename_i hz
          obtain ⟨a, us, rfl, hh, l⟩ := isL xs rfl
          cases hk : ixN xs.length k with
          | none => rw [hk] at em; cases em
          | some j =>
            obtain ⟨q1, q2, q3, q4⟩ := ixN_seq hk
            have ej : xs[j]? = some xs[j] := List.getElem?_eq_getElem q2
            simp only [hk, ej, Option.map] at em
            cases em
            obtain ⟨yv, e1, e2⟩ := l.get ej
            have hz' : xs.length ≤ sizeLine := hz
            cases dn with
            | cons a1 b1 =>
              cases b1
              cases a1 with
              | int => exact ⟨a, us, k, j, yv, rfl, rfl, hh, by have := line63; omega, by have := line63; omega, by rw [← l.length]; exact q1, e1, fin_w xs _ us _ a yv rfl rfl rfl hh (l.eraseIdx j) e2⟩
        · cases em
      · cases em

theorem base_of {e : Expr} {f : Str} {env : PySem.Env} (h : notSuper e = true) : attributeBase e f env (eval e env) = eval e env := by
  cases e <;> first | rfl | skip
  rename_i fn args kws pos
  cases fn <;> first | rfl | skip
  cases args <;> first | rfl | skip
  cases kws <;> first | rfl | skip
  cases h
theorem snd_mut (c : CxOk X lv) {N : List Str} {nm : Nms} (hN : X.N = N) (n : NmOk X nm) {m : Mm} {i : Nat} {y x : Str} {a : Expr} {as : List Expr} {rs : Env → Res (List D)} {p apos pos : Pos} (hx : Str.ofString (mmName m) = x) (hy : (decide (N[i]? = some y) && visB nm y && nameB y) = true)
    (hl : apos.endLine = pos.line) (hlen : (a :: as).length < 20) (hp : ∀ z ∈ (a :: as), plainX z = true) (hs : SndIts X xi W (a :: as) rs) :
    Snd X xi W (.Call (.Attribute (.Name y p) x apos) (a :: as) [] pos) (fun env => match slot env i with
      | some (.lst _) => (rs env).bind fun ds env => match slot env i with
        | some w => match mutF m w ds with
          | some (y, w') => .ok (.val (.d y)) (env.set i (some w'))
          | none => .bad
        | none => .bad
      | _ => .bad) := by
  subst hx
  have pv := (snd_var (xi := xi) (W := W) (pos := p) hN n hy).2
  have plain : ∀ (zs : List Expr), (∀ z ∈ zs, plainX z = true) → (backTo pos (starEach zs X.env)).all (fun x => !x.1) = true ∧ (backTo pos (starEach zs X.env)).any (·.1) = false := by
    intro zs
    induction zs with
    | nil => intro _; exact ⟨rfl, rfl⟩
    | cons z zs ih =>
      intro h
      obtain ⟨h1, h2⟩ := ih fun q hq => h q (List.mem_cons_of_mem _ hq)
      rw [starEach_plain (h z List.mem_cons_self)]
      exact ⟨by show (true && _) = true; rw [Bool.true_and]; exact h1, by show (false || _) = false; rw [Bool.false_or]; exact h2⟩
  have hstar := starEach_plain (xs := as) (env := X.env) (hp a List.mem_cons_self)
  have hany := (plain as fun q hq => hp q (List.mem_cons_of_mem _ hq)).2
  have hfew : ((backTo pos (starEach (a :: as) X.env)).all (fun x => !x.1) && (backToKw pos (keywordEach [] X.env)).all (fun x => x.1.isSome)
      && decide ((a :: as).length + ([] : List Keyword).length + (if ([] : List Keyword).isEmpty then 0 else 1) < 30)) = true := by
    rw [(plain (a :: as) hp).1]
    show (true && true && decide ((a :: as).length + 0 + 0 < 30)) = true
    rw [Bool.true_and, Bool.true_and, decide_eq_true_eq]
    omega
  have hline : (apos.endLine == pos.line) = true := by rw [hl]; exact beq_self_eq_true _
  have go : ∀ {id : String}, (∃ (_ : PlainAttrs "list") (_ : Slot "list" (Str.ofString (mmName m)) id) (_ : typeOf (.builtin id) = pure (.type "method_descriptor")), MtR X id (rMut m)) →
      PE X (.Call (.Attribute (.Name y p) (Str.ofString (mmName m)) apos) (a :: as) [] pos) (tBM X.K "list" (rMut m) (tVar i) (tG X.K X.w xi W (RDs X.K X.w) rs)) := fun ⟨pa, slot, ty, hm⟩ =>
    pe_bm pa slot ty hm pv hs (base_of rfl) hfew hline hstar hany
  have pe : PE X (.Call (.Attribute (.Name y p) (Str.ofString (mmName m)) apos) (a :: as) [] pos) (tBM X.K "list" (rMut m) (tVar i) (tG X.K X.w xi W (RDs X.K X.w) rs)) := by
    cases m with
    | append => exact go ⟨PySem.F.plainAttrs_list, PySem.F.slot_list_append, PySem.F.type_list_append, mt_append⟩
    | extend => exact go ⟨PySem.F.plainAttrs_list, PySem.F.slot_list_extend, PySem.F.type_list_extend, mt_extend⟩
    | popAt => exact go ⟨PySem.F.plainAttrs_list, PySem.F.slot_list_pop, PySem.F.type_list_pop, mt_popAt⟩
  refine Snd.of_pe rfl (impE pe fun σ H Q q => ?_)
  obtain ⟨Hf, env, L, s0, fin⟩ := q
  cases es : slot env i with
  | none => simp only [es] at fin; exact fin.elim
  | some w0 =>
    cases w0 with
    | d => simp only [es] at fin; exact fin.elim
    | dct => simp only [es] at fin; exact fin.elim
    | lst xs0 =>
      simp only [es] at fin
      obtain ⟨v, M, h1, h2, p1⟩ := s0.sl.out es
      have ty : tyV X.K "list" v H := by
        have r := s0.fam.rep _ (p1.mem_iff.mpr List.mem_cons_self)
        cases r with
        | lst e _ _ => exact .inl ⟨rfl, _, SqL.of e⟩
      refine ⟨v, h1, ty, bindG (R1 := RDs X.K X.w) (R2 := RAr) (T := []) (Step.refl s0.sub) s0.fam s0.sl fin fun ds env2 vs T2 Hf2 H2 L2 r2 sl2 st2 fam2 _ fin2 => ?_⟩
      obtain ⟨dn, rfl⟩ := r2
      exact mut_fin sl2 st2 fam2 h1 dn fin2

/-! ### list(range(n)) -/
theorem rangeF_eq {lo hi : Int} {xs : List D} (e : rangeF lo hi = some xs) : (-(2 ^ 62) ≤ lo ∧ lo < 2 ^ 62 ∧ -(2 ^ 62) ≤ hi ∧ hi < 2 ^ 62) ∧ xs = (List.range (hi - lo).toNat).map fun i => .int (lo + (i : Nat)) := by
  unfold rangeF at e
  split at e
  · rename_i h; exact ⟨h, (Option.some.inj e).symm⟩
  · cases e
theorem range_den {K : PySem.W.Frag} {w : World} {Hf : Hp} {lo : Int} : ∀ (l : List Nat), DenL K w Hf (l.map fun i => .int (lo + (i : Nat))) (l.map fun i => V.int (lo + (i : Nat)))
  | [] => .nil
  | _ :: l => .cons (.int _) (range_den l)
theorem snd_listRange (c : CxOk X lv) {nm : Nms} (n : NmOk X nm) {x y : Str} {a : Expr} {ra : Env → Res Ar} {p p2 pos pos2 : Pos} (hx : Str.ofString "list" = x) (hg : glB nm x = true) (hy : Str.ofString "range" = y) (hgy : glB nm y = true) (hp : plainX a = true) (ha : Snd X xi W a ra) :
    Snd X xi W (.Call (.Name x p) [.Call (.Name y p2) [a] [] pos2] [] pos) (fun env => (ra env).bind fun x env => match use env x with
      | some (.int i) => if i ≤ line then Res.of ((rangeF 0 i).map fun xs => .val (.lst xs)) env else .bad
      | _ => .bad) := by
  subst hx hy
  refine Snd.of_pe rfl (impE (pe_listRg c.calm (n.gl _ hg) (c.blt "list" (by decide)) (prg_1 (n.gl _ hgy) (c.blt "range" (by decide)) ha.pe (starEach_plain hp)) rfl) fun σ H Q q => ?_)
  refine bindF (R1 := RAr) (R2 := RAr) q fun Hf L a env1 v T1 Hf1 H1 L1 r1 sl1 st1 fam1 fin => ?_
  cases e : use env1 a with
  | none => rw [e] at fin; exact fin.elim
  | some d =>
    cases d <;> first | (rw [e] at fin; exact fin.elim) | skip
    rename_i i
    rw [e] at fin
    by_cases hi : i ≤ line
    · have fin : Fin X.K X.w xi W RAr σ Hf H L (if i ≤ line then Res.of ((rangeF 0 i).map fun xs => Ar.val (.lst xs)) env1 else .bad) Q := fin
      rw [if_pos hi] at fin
      cases er : rangeF 0 i with
      | none => rw [er] at fin; exact fin.elim
      | some xs =>
        rw [er] at fin
        obtain ⟨⟨b1, b2, b3, b4⟩, rfl⟩ := rangeF_eq er
        have hl : (line : Int) = 16777216 := rfl
        exact ⟨i, (use_view r1 (fun _ h => h) sl1 fam1 e).int, ⟨b1, b2, b3, b4, by omega⟩, fun q hq => fin_lst fin sl1 st1 fam1 (range_den _) hq⟩
    · have fin : Fin X.K X.w xi W RAr σ Hf H L (if i ≤ line then Res.of ((rangeF 0 i).map fun xs => Ar.val (.lst xs)) env1 else .bad) Q := fin
      rw [if_neg hi] at fin; exact fin.elim

/-! ### {k: v, ..} -/
theorem snd_item {x : Expr} {ra : Env → Res Ar} (ha : PE X x (tG X.K X.w xi W RAr ra)) : PE X x (tG X.K X.w xi W (RD X.K X.w) (fun env => (ra env).bind item)) := impE ha fun σ H Q q => by
  refine bindF (R1 := RAr) (R2 := RD X.K X.w) q fun Hf L a env1 v T1 Hf1 H1 L1 r1 sl1 st1 fam1 fin => ?_
  have fin' : Fin X.K X.w xi W (RD X.K X.w) σ Hf H L ((item a env1).bind fun d env => .ok d env) Q := by
    cases h : item a env1 with
    | ok d e => rw [h] at fin; exact fin
    | exc => exact (item_noexc h).elim
    | bad => rw [h] at fin; exact fin.elim
  obtain ⟨d, env2, Hf2, L2, dn, sl2, st2, fam2, fin2⟩ := item_fin (M := []) r1 sl1 st1 fam1 fin'
  exact fin2 v [] Hf2 H1 L2 ⟨dn, rfl⟩ sl2 st2 fam2
/-- the pairs of a display with written texts as keys -/
def SndDs (X : Cx) (xi : XI) (W : WX) (ks : List Str) (keys : List (Option Expr)) (vals : List Expr) (pos : Pos) (r : Env → Res (List D)) : Prop :=
  ∃ trs, PPs X pos keys vals trs ∧ ∀ σ H (R : List (V × V) → Hp → Prop), tG X.K X.w xi W (RDs X.K X.w) r σ H (fun vs H2 => vs.length = ks.length → R ((ks.zip vs).map fun p => (V.str p.1, p.2)) H2) → tPairs trs σ H R
theorem ds_nil {pos : Pos} : SndDs X xi W [] [] [] pos (fun env => .ok [] env) := ⟨[], pps_nil, fun σ H Q q => by
  obtain ⟨Hf, env, L, s0, fin⟩ := q
  exact fin [] [] Hf H L ⟨.nil, rfl⟩ s0.sl (Step.refl s0.sub) s0.fam rfl⟩
theorem ds_cons {k : Str} {ks : List Str} {j : Nat} {kp pos : Pos} {keys : List (Option Expr)} {x : Expr} {vals : List Expr} {ra : Env → Res Ar} {rs : Env → Res (List D)} (ha : PE X x (tG X.K X.w xi W RAr ra)) (hs : SndDs X xi W ks keys vals pos rs) :
    SndDs X xi W (k :: ks) (some (.Constant (.str k) j kp) :: keys) (x :: vals) pos (fun env => (ra env).bind fun a env => (item a env).bind fun d env => (rs env).bind fun ds env => .ok (d :: ds) env) := by
  obtain ⟨trs, hp, ht⟩ := hs
  refine ⟨_, pps_cons pe_str (snd_item ha) hp, fun σ H R q => ?_⟩
  have q' : tG X.K X.w xi W (RDs X.K X.w) (fun env => ((ra env).bind item).bind fun d env => (rs env).bind fun ds env => .ok (d :: ds) env) σ H _ := tG_congr (fun env => by
    cases ra env with
    | ok a e => rfl
    | exc x e => rfl
    | bad => rfl) q
  show tG X.K X.w xi W (RD X.K X.w) (fun env => (ra env).bind item) σ H _
  refine bindF (R1 := RD X.K X.w) (R2 := RDs X.K X.w) q' fun Hf L d env1 v T1 Hf1 H1 L1 r1 sl1 st1 fam1 fin => ?_
  obtain ⟨dn, rfl⟩ := r1
  refine ht σ H1 _ (bindG (R1 := RDs X.K X.w) (R2 := RDs X.K X.w) (T := []) st1 fam1 sl1 fin fun ds env3 vs T3 Hf3 H3 L3 r3 sl3 st3 fam3 st23 fin3 => ?_)
  obtain ⟨dns, rfl⟩ := r3
  exact fun hl => fin3 (v :: vs) [] Hf3 H3 L3 ⟨.cons (dn.mono st23.subf) dns, rfl⟩ sl3 st3 fam3 (by rw [List.length_cons, List.length_cons, hl])
theorem snd_dct0 {pos : Pos} : Snd X xi W (.Dict [] [] pos) (fun env => .ok (.val (.dct [] [])) env) := by
  refine Snd.of_pe rfl (impE pe_dnewK fun σ H Q q => ?_)
  obtain ⟨Hf, env, L, s0, fin⟩ := q
  intro p hp
  obtain ⟨a, b⟩ := new_own (o := .dK []) (x := .dct [] []) s0.sub hp s0.fam (.dct upd_same (none_of s0.sub hp) rfl .nil)
  exact fin (.ref p) [(.dct [] [], .ref p)] Hf _ L .val s0.sl a b
theorem zip_keys : ∀ {ks : List Str} {vs : List V}, vs.length = ks.length → ((ks.zip vs).map fun p => ((Sum.inr p.1 : Key), p.2)).map (·.1) = ks.map Sum.inr ∧ ((ks.zip vs).map fun p => ((Sum.inr p.1 : Key), p.2)).map (·.2) = vs
  | [], [], _ => ⟨rfl, rfl⟩
  | [], _ :: _, h => by simp at h
  | _ :: _, [], h => by simp at h
  | k :: ks, v :: vs, h => by
    obtain ⟨h1, h2⟩ := zip_keys (ks := ks) (vs := vs) (by simpa using h)
    exact ⟨by rw [List.zip_cons_cons, List.map_cons, List.map_cons, h1]; rfl, by rw [List.zip_cons_cons, List.map_cons, List.map_cons, h2]⟩
theorem snd_dct {ks : List Str} {keys : List (Option Expr)} {vals : List Expr} {pos : Pos} {rs : Env → Res (List D)} (hs : SndDs X xi W ks keys vals pos rs) (hall : keys.all (·.isSome) = true) (hl : keys.length = vals.length) (h0 : keys ≠ []) (h15 : keys.length ≤ 15)
    (hk : ks.length = keys.length) (hn : ks.Nodup) : Snd X xi W (.Dict keys vals pos) (fun env => (rs env).bind fun ds env => .ok (.val (.dct ks ds)) env) := by
  obtain ⟨trs, hp, ht⟩ := hs
  refine Snd.of_pe rfl (impE (pe_disp hp hall hl h0 h15) fun σ H Q q => ?_)
  intro p hp0
  obtain ⟨Hf, env, L, s0, fin⟩ := q
  have fin : Fin X.K X.w xi W RAr σ Hf H L ((rs env).bind fun ds env => .ok (.val (.dct ks ds)) env) Q := fin
  have sm := same_upd (o := .dK []) hp0
  have s1 : St0 X.K X.w env σ Hf (upd H p (.dK [])) L := ⟨s0.sl, ⟨fun q hq => (s0.fam.rep q hq).mono (Same.refl _) (fun a _ o e _ => sm a o e) fun a ha => ((s0.fam.rep q hq).own ha).2.1, s0.fam.dj, tabs_upd s0.fam.tabs (fun u e => by rw [hp0] at e; cases e), s0.fam.nt⟩, s0.sub.trans sm⟩
  have nO : ¬ Owned L p := fun h => by
    obtain ⟨_, o, e, _⟩ := s0.fam.own h
    rw [hp0] at e; cases e
  -- a step from the heap with the new dict is one from the heap without
  have back : ∀ {Hg H' : Hp} {M : List WV}, Step Hf (upd H p (.dK [])) L Hg H' M → Step Hf H L Hg H' M := fun {Hg H' M} st => ⟨st.subf, st.sub, fun b o e t n => st.keep b o (sm b o e) t n, fun b h => by
      rcases st.newO b h with z | z
      · exact .inl z
      · by_cases e : b = p
        · subst e; exact .inr (.non hp0)
        · exact .inr fun u q => z u (by rw [upd_ne e]; exact q), fun b o h => by
      rcases st.newF b o h with z | z | z
      · exact .inl z
      · exact .inr (.inl z)
      · by_cases e : b = p
        · subst e; exact .inr (.inr (.non hp0))
        · exact .inr (.inr fun u q => z u (by rw [upd_ne e]; exact q))⟩
  refine ht σ _ _ ⟨Hf, env, L, s1, ?_⟩
  cases e : rs env with
  | bad => rw [e] at fin; exact fin
  | exc x env2 =>
    rw [e] at fin
    exact fun Hg H' L' cls dd h1 h2 h3 h4 => fin Hg H' L' cls dd h1 (back h2) h3 h4
  | ok ds env2 =>
    rw [e] at fin
    intro vs T Hg H' L' r sl st fam hlen
    obtain ⟨dn, rfl⟩ := r
    rw [List.nil_append] at st fam
    have e1 : H' p = some (.dK []) := st.keep p _ upd_same (fun _ z => by cases z) nO
    have hpf : Hg p = none := by
      cases z : Hg p with
      | none => rfl
      | some o =>
        rcases st.newF p o z with q | q | q
        · rw [s0.sub _ _ q] at hp0; cases hp0
        · exact (nO q).elim
        · exact (q.no upd_same fun _ z => by cases z).elim
    have nL : ¬ Owned L' p := fun h => by
      rcases st.newO p h with q | q
      · exact nO q
      · exact q.no upd_same fun _ z => by cases z
    obtain ⟨k1, k2⟩ := zip_keys hlen
    refine ⟨e1, (ks.zip vs).map fun q => ((Sum.inr q.1 : Key), q.2), ?_, ?_, ?_⟩
    · rw [List.map_map]; rfl
    · rw [List.length_map, List.length_zip]; omega
    · rw [mergeK_self (by
        rw [List.nil_append, k1]
        exact List.Pairwise.map _ (fun a b h z => h (Sum.inr.inj z)) hn), List.nil_append]
      have rep : RepW X.K X.w Hg (upd H' p (.dK ((ks.zip vs).map fun q => ((Sum.inr q.1 : Key), q.2)))) (.dct ks ds) (.ref p) := .dct upd_same hpf k1 (by rw [k2]; exact dn)
      have keepP : ∀ b o, H' b = some o → b ≠ p → upd H' p (.dK ((ks.zip vs).map fun q => ((Sum.inr q.1 : Key), q.2))) b = some o := fun b o e n => by rw [upd_ne n]; exact e
      have st' := back st
      refine fin (.ref p) [(.dct ks ds, .ref p)] Hg _ L' .val sl ⟨st'.subf, fun b o e => ?_, fun b o e t n => ?_, fun b h => ?_, st'.newF⟩ ⟨fun q hq => ?_, List.pairwise_cons.mpr ⟨fun q hq a ha hb => ?_, fam.dj⟩, tabs_upd fam.tabs (fun u e => by rw [e1] at e; cases e; exact ⟨fun _ z => (by cases z), fun c q z => (by unfold LamX.CodeO at z; cases z)⟩), fam.nt⟩
      · exact keepP b o (st'.sub b o e) fun z => by rw [z, hpf] at e; cases e
      · exact keepP b o (st'.keep b o e t n) fun z => by rw [z, hp0] at e; cases e
      · rcases Owned.cons.mp h with h | h
        · have : b = p := by simpa [adp, ad] using h
          subst this; exact .inr (.non hp0)
        · exact st'.newO b h
      · rcases List.mem_cons.mp hq with rfl | hq
        · exact rep
        · exact (fam.rep q hq).mono (Same.refl _) (fun a ha o e _ => keepP a o e fun z => nL ⟨q, hq, z ▸ ha⟩) fun a ha => ((fam.rep q hq).own ha).2.1
      · have : a = p := by simpa [adp, ad] using ha
        subst this
        exact nL ⟨q, hq, hb⟩
end
end PyEv

set_option maxRecDepth 100000
set_option maxHeartbeats 2000000
/-! PyB9: what is walked. -/
namespace PyEv
open PySem L2
variable [TabL]

/-- an iterator that yields data -/
def WalkSpec (K : PySem.W.Frag) (w : World) (J : L2.It) (Hf : Hp) (ds : List D) : Prop :=
  ∀ Hg H, Same Hf Hg → Same Hg H → ∀ i, (ds.length ≤ i → J.stop i H) ∧ (i < ds.length → J.go i H) ∧
    ∀ x H' d L, J.yld i H x H' → ds[i]? = some d → Fam K w Hg H L → ∃ Hg', Den K w Hg' d x ∧ Step Hg H L Hg' H' L ∧ Fam K w Hg' H' L
theorem WalkSpec.mono {K : PySem.W.Frag} {w : World} {J : L2.It} {Hf Hg : Hp} {ds : List D} (h : WalkSpec K w J Hf ds) (s : Same Hf Hg) : WalkSpec K w J Hg ds := fun Hg' H a b => h Hg' H (s.trans a) b
def RWalk (K : PySem.W.Frag) (w : World) : RR (List D) L2.It := fun _ Hf ds J T => WalkSpec K w J Hf ds ∧ T = []

theorem impI {X : Cx} {tg e : Expr} {t t' : TI} (h : PI X tg e t) (f : ∀ σ H Q, t' σ H Q → t σ H Q) : PI X tg e t' := ⟨fun pins s σ H Q I q => h.run pins s σ H Q I (f σ H Q q)⟩

section
variable {X : Cx} {xi : XI} {W : WX} {lv : Nat}
/-- a sound thing to walk -/
abbrev SndIt (X : Cx) (xi : XI) (W : WX) (tg e : Expr) (r : Env → Res (List D)) : Prop := PI X tg e (tG X.K X.w xi W (RWalk X.K X.w) r)

/-- any list, tuple or text -/
def iSeq (K : PySem.W.Frag) (tl : TE) : TI := fun σ H R => tl σ H fun x H1 => (∃ a, x = .ref a ∧ (∃ xs, SqL K H1 a xs) ∧ R (Itl K a) H1) ∨ (∃ a, x = .ref a ∧ (∃ xs, SqT K H1 a xs) ∧ R (Itt K a) H1) ∨ ∃ z, x = .str z ∧ R (Its z) H1
open PySem.Spec PyProof.Rows in
theorem pi_seq {tg l : Expr} {tl : TE} (hl : PE X l tl) : PI X tg l (iSeq X.K tl) := by
  refine ⟨fun pins s σ H R I h => ?_⟩
  refine thn (hl.run pins s σ H _ I h) fun v s1 ⟨x, H1, I1, r1, q1⟩ => ?_
  rcases q1 with ⟨a, e, ⟨xs, hq⟩, q⟩ | ⟨a, e, ⟨xs, hq⟩, q⟩ | ⟨z, e, q⟩
  · subst e
    cases r1
    obtain ⟨its, rv, p, hz⟩ := I1.list hq
    exact wpAny_pyIter_list p.isList (pi_one (tk := s1.toks) I1 _ (turn_list a _) ⟨_, Heap.get?_push_size _ rfl, rfl, rfl⟩ q)
  · subst e
    cases r1
    obtain ⟨its, rv, p, hz⟩ := I1.tuple hq
    exact wpAny_pyIter_tuple (show s1.heap.IsTuple a its.toArray from p) (pi_one (tk := s1.toks) I1 _ (turn_tuple a _) ⟨_, Heap.get?_push_size _ rfl, rfl, rfl⟩ q)
  · subst e
    obtain ⟨t, rfl⟩ := r1
    cases ha : z.cps.all (· < 128)
    · exact wpAny_pyIter_wide ha (pi_one (tk := s1.toks) I1 _ (turn_str _ z t "str_iterator" (.inr rfl)) ⟨_, Heap.get?_push_size _ rfl, rfl, rfl⟩ q)
    · exact wpAny_pyIter_ascii ha (pi_one (tk := s1.toks) I1 _ (turn_str _ z t "str_ascii_iterator" (.inl rfl)) ⟨_, Heap.get?_push_size _ rfl, rfl, rfl⟩ q)

theorem walk_lst {K : PySem.W.Frag} {w : World} {Hf : Hp} {a : Addr} {vs : List V} {ds : List D} (e : Hf a = some (.lst vs)) (l : DenL K w Hf ds vs) : WalkSpec K w (Itl K a) Hf ds := by
  intro Hg H s1 s2 i
  have q : SqL K H a vs := SqL.of (s2 _ _ (s1 _ _ e))
  refine ⟨fun h => ⟨vs, q, by rw [← l.length]; exact h⟩, fun h => ⟨vs, vs[i]'(by rw [← l.length]; exact h), q, List.getElem?_eq_getElem _⟩, fun x H' d L y hd f => ?_⟩
  obtain ⟨rfl, y⟩ := y
  obtain ⟨v, h1, h2⟩ := l.get hd
  have := y vs q
  rw [h1] at this; cases this
  exact ⟨Hg, h2.mono s1, Step.refl s2, f⟩
theorem walk_tup {K : PySem.W.Frag} {w : World} {Hf : Hp} {a : Addr} {vs : List V} {ds : List D} (e : SqT K Hf a vs) (l : DenL K w Hf ds vs) : WalkSpec K w (Itt K a) Hf ds := by
  intro Hg H s1 s2 i
  have q : SqT K H a vs := SqT.same s2 (SqT.same s1 e)
  refine ⟨fun h => ⟨vs, q, by rw [← l.length]; exact h⟩, fun h => ⟨vs, vs[i]'(by rw [← l.length]; exact h), q, List.getElem?_eq_getElem _⟩, fun x H' d L y hd f => ?_⟩
  obtain ⟨rfl, y⟩ := y
  obtain ⟨v, h1, h2⟩ := l.get hd
  have := y vs q
  rw [h1] at this; cases this
  exact ⟨Hg, h2.mono s1, Step.refl s2, f⟩
theorem walk_str {K : PySem.W.Frag} {w : World} {Hf : Hp} {z : Str} : WalkSpec K w (Its z) Hf (z.cps.toList.map fun c => .str ⟨#[c]⟩) := by
  intro Hg H s1 s2 i
  refine ⟨fun h => ?_, fun h => ?_, fun x H' d L y hd f => ?_⟩
  · have h : z.cps.size ≤ i := by simpa using h
    exact h
  · have h : i < z.cps.size := by simpa using h
    exact h
  · obtain ⟨rfl, c, hc, rfl⟩ := y
    have hd : d = .str ⟨#[c]⟩ := by
      have e : z.cps.toList[i]? = some c := by simpa using hc
      rw [List.getElem?_map, e] at hd
      exact (Option.some.inj hd).symm
    subst hd
    exact ⟨Hg, .str _, Step.refl s2, f⟩
theorem walk_range {K : PySem.W.Frag} {w : World} {Hf : Hp} {lo : Int} {n : Nat} : WalkSpec K w (Itr lo n) Hf ((List.range n).map fun i => .int (lo + (i : Nat))) := by
  intro Hg H s1 s2 i
  refine ⟨fun h => ?_, fun h => ?_, fun x H' d L y hd f => ?_⟩
  · have h : n ≤ i := by simpa using h
    exact h
  · have h : i < n := by simpa using h
    exact h
  · obtain ⟨rfl, rfl⟩ := y
    rw [List.getElem?_map] at hd
    cases e : (List.range n)[i]? with
    | none => rw [e] at hd; cases hd
    | some j =>
      rw [e] at hd
      have hj : j = i := by
        rw [List.getElem?_eq_some_iff] at e
        obtain ⟨_, e⟩ := e
        simpa using e.symm
      subst hj
      cases hd
      exact ⟨Hg, .int _, Step.refl s2, f⟩

theorem fin_walk {σ : St} {Hf H Hf1 H1 : Hp} {L L1 : List WV} {env1 : Env} {R : L2.It → Hp → Prop} {ds : List D} {J : L2.It} (fin : Fin X.K X.w xi W (RWalk X.K X.w) σ Hf H L (.ok ds env1) R) (sl : Sl env1 σ L1) (st : Step Hf H L Hf1 H1 L1) (fam : Fam X.K X.w Hf1 H1 L1)
    (h : WalkSpec X.K X.w J Hf1 ds) : R J H1 := fin J [] Hf1 H1 L1 ⟨h, rfl⟩ sl st fam

theorem it_seq {tg x : Expr} {ra : Env → Res Ar} (ha : PE X x (tG X.K X.w xi W RAr ra)) : SndIt X xi W tg x (fun env => (ra env).bind fun a env => (item a env).bind fun d env => Res.of (itemsF d) env) := impI (pi_seq ha) fun σ H Q q => by
  refine bindF (R1 := RAr) (R2 := RWalk X.K X.w) q fun Hf L a env1 v T1 Hf1 H1 L1 r1 sl1 st1 fam1 fin => ?_
  obtain ⟨d, env2, Hf2, L2, dn, sl2, st2, fam2, fin2⟩ := item_fin (M := []) r1 sl1 st1 fam1 fin
  cases dn with
  | tup hq l => exact .inr (.inl ⟨_, rfl, ⟨_, SqT.same st2.sub hq⟩, fin_walk fin2 sl2 st2 fam2 (walk_tup hq l)⟩)
  | lst hq l => exact .inl ⟨_, rfl, ⟨_, SqL.of (st2.sub _ _ hq)⟩, fin_walk fin2 sl2 st2 fam2 (walk_lst hq l)⟩
  | str z => exact .inr (.inr ⟨z, rfl, fin_walk fin2 sl2 st2 fam2 walk_str⟩)
  | _ => exact fin2.elim

theorem it_range1 (c : CxOk X lv) {nm : Nms} (n : NmOk X nm) {tg : Expr} {y : Str} {a : Expr} {ra : Env → Res Ar} {p pos : Pos} (hy : Str.ofString "range" = y) (hg : glB nm y = true) (hp : plainX a = true) (ha : Snd X xi W a ra) :
    SndIt X xi W tg (.Call (.Name y p) [a] [] pos) (fun env => (ra env).bind fun a env => match use env a with
      | some (.int i) => Res.of (rangeF 0 i) env
      | _ => .bad) := by
  subst hy
  refine impI (pi_range1 (n.gl _ hg) (c.blt "range" (by decide)) (pa_cons ha.pe pa_nil (starEach_plain hp)) (starEach_plain hp)) fun σ H Q q => ?_
  refine bindF (R1 := RAr) (R2 := RWalk X.K X.w) q fun Hf L a env1 v T1 Hf1 H1 L1 r1 sl1 st1 fam1 fin => ?_
  cases e : use env1 a with
  | none => rw [e] at fin; exact fin.elim
  | some d =>
    cases d <;> first | (rw [e] at fin; exact fin.elim) | skip
    rename_i i
    rw [e] at fin
    have fin : Fin X.K X.w xi W (RWalk X.K X.w) σ Hf H L (Res.of (rangeF 0 i) env1) Q := fin
    cases er : rangeF 0 i with
    | none => rw [er] at fin; exact fin.elim
    | some xs =>
      rw [er] at fin
      obtain ⟨⟨b1, b2, b3, b4⟩, rfl⟩ := rangeF_eq er
      have hv := (use_view r1 (fun _ h => h) sl1 fam1 e).int
      subst hv
      refine ⟨i, rfl, b3, b4, fin_walk fin sl1 (st1.less fun b q => Owned.append.mpr (.inr q)) (fam1.sub (List.sublist_append_right _ _)) ?_⟩
      rw [show (i - 0).toNat = i.toNat by simp]
      exact walk_range

theorem it_range2 (c : CxOk X lv) {nm : Nms} (n : NmOk X nm) {tg : Expr} {y : Str} {a b : Expr} {ra rb : Env → Res Ar} {p pos : Pos} (hy : Str.ofString "range" = y) (hg : glB nm y = true) (hp : plainX a = true) (hp2 : plainX b = true) (ha : Snd X xi W a ra) (hb : Snd X xi W b rb) :
    SndIt X xi W tg (.Call (.Name y p) [a, b] [] pos) (fun env => (ra env).bind fun x env => (rb env).bind fun y env => match use env x, use env y with
      | some (.int i), some (.int j) => Res.of (rangeF i j) env
      | _, _ => .bad) := by
  subst hy
  refine impI (pi_range2 (n.gl _ hg) (c.blt "range" (by decide)) (pa_cons ha.pe (pa_cons hb.pe pa_nil (starEach_plain hp2)) (starEach_plain hp)) (by rw [starEach_plain hp, starEach_plain hp2]; rfl) (starEach_plain hp2)) fun σ H Q q => ?_
  refine bindF (R1 := RAr) (R2 := RWalk X.K X.w) q fun Hf L a env1 v T1 Hf1 H1 L1 r1 sl1 st1 fam1 fin => ?_
  refine bindG (R1 := RAr) (R2 := RWalk X.K X.w) (T := T1) st1 fam1 sl1 fin fun b env2 u T2 Hf2 H2 L2 r2 sl2 st2 fam2 _ fin2 => ?_
  have e12 : T1 ++ (T2 ++ L2) = (T1 ++ T2) ++ L2 := (List.append_assoc _ _ _).symm
  rw [e12] at st2 fam2
  cases e : use env2 a with
  | none => rw [e] at fin2; exact fin2.elim
  | some d =>
    cases d <;> first | (rw [e] at fin2; exact fin2.elim) | skip
    rename_i i
    cases e2 : use env2 b with
    | none => rw [e, e2] at fin2; exact fin2.elim
    | some d =>
      cases d <;> first | (rw [e, e2] at fin2; exact fin2.elim) | skip
      rename_i j
      rw [e, e2] at fin2
      have fin2 : Fin X.K X.w xi W (RWalk X.K X.w) σ Hf H L (Res.of (rangeF i j) env2) Q := fin2
      cases er : rangeF i j with
      | none => rw [er] at fin2; exact fin2.elim
      | some xs =>
        rw [er] at fin2
        obtain ⟨⟨b1, b2, b3, b4⟩, rfl⟩ := rangeF_eq er
        have hv := (use_view r1 (fun p h => List.mem_append_left _ h) sl2 fam2 e).int
        have hu := (use_view r2 (fun p h => List.mem_append_right _ h) sl2 fam2 e2).int
        subst hv hu
        exact ⟨i, j, rfl, ⟨b1, b2, b3, b4⟩, fin_walk fin2 sl2 (st2.less fun b q => Owned.append.mpr (.inr q)) (fam2.sub (List.sublist_append_right _ _)) walk_range⟩

/-- a new pair at a turn -/
theorem pair_new {K : PySem.W.Frag} {w : World} {Hg H : Hp} {T : Addr} {L : List WV} {d e : D} {x y : V} (s : Same Hg H) (hT : H T = none) (f : Fam K w Hg H L) (h1 : Den K w Hg d x) (h2 : Den K w Hg e y) :
    ∃ Hg', Den K w Hg' (.tup [d, e]) (.ref T) ∧ Step Hg H L Hg' (upd H T (.tup [x, y])) L ∧ Fam K w Hg' (upd H T (.tup [x, y])) L := by
  obtain ⟨a, b⟩ := new_frz (o := .tup [x, y]) s hT (fun _ z => by cases z) f
  exact ⟨_, .tup (SqT.of upd_same) (.cons (h1.mono a.subf) (.cons (h2.mono a.subf) .nil)), a, b⟩
theorem walk_enumT {K : PySem.W.Frag} {w : World} {Hf : Hp} {a : Addr} {vs : List V} {ds : List D} (e : SqT K Hf a vs) (l : DenL K w Hf ds vs) : WalkSpec K w (IteT K a) Hf (ds.zipIdx.map fun p => .tup [.int (p.2 : Nat), p.1]) := by
  intro Hg H s1 s2 i
  have q : SqT K H a vs := SqT.same s2 (SqT.same s1 e)
  refine ⟨fun h => ⟨vs, q, by rw [← l.length]; simpa using h⟩, fun h => ?_, fun x H' d L y hd f => ?_⟩
  · have h : i < vs.length := by rw [← l.length]; simpa using h
    exact ⟨vs, vs[i], q, List.getElem?_eq_getElem _⟩
  · obtain ⟨T, u, rfl, hT, rfl, y⟩ := y
    rw [List.getElem?_map, List.getElem?_zipIdx] at hd
    cases hi : ds[i]? with
    | none => rw [hi] at hd; cases hd
    | some d0 =>
      rw [hi] at hd
      have hd := Option.some.inj hd
      obtain ⟨v, h1, h2⟩ := l.get hi
      have := y vs q
      rw [h1] at this; cases this
      subst hd
      have e0 : ((0 + i : Nat) : Int) = (i : Nat) := by rw [Nat.zero_add]
      show ∃ Hg', Den K w Hg' (.tup [.int ((0 + i : Nat) : Int), d0]) _ ∧ _
      rw [e0]
      exact pair_new s2 hT f (.int _) (h2.mono s1)
theorem walk_enumS {K : PySem.W.Frag} {w : World} {Hf : Hp} {z : Str} : WalkSpec K w (IteS z) Hf ((signsD z).zipIdx.map fun p => .tup [.int (p.2 : Nat), p.1]) := by
  intro Hg H s1 s2 i
  have hlen : (signsD z).length = z.cps.size := by simp [signsD]
  refine ⟨fun h => ?_, fun h => ?_, fun x H' d L y hd f => ?_⟩
  · have h : (signsD z).length ≤ i := by simpa using h
    show z.cps.size ≤ i
    omega
  · have h : i < (signsD z).length := by simpa using h
    exact ⟨z.cps[i]'(by omega), Array.getElem?_eq_getElem _⟩
  · obtain ⟨T, c, rfl, hT, rfl, hc⟩ := y
    rw [List.getElem?_map, List.getElem?_zipIdx] at hd
    have hi : (signsD z)[i]? = some (.str ⟨#[c]⟩) := by
      unfold signsD
      rw [List.getElem?_map, Array.getElem?_toList, hc]
      rfl
    rw [hi] at hd
    have hd := Option.some.inj hd
    subst hd
    have e0 : ((0 + i : Nat) : Int) = (i : Nat) := by rw [Nat.zero_add]
    show ∃ Hg', Den K w Hg' (.tup [.int ((0 + i : Nat) : Int), .str ⟨#[c]⟩]) _ ∧ _
    rw [e0]
    exact pair_new s2 hT f (.int _) (.str _)
theorem walk_enum {K : PySem.W.Frag} {w : World} {Hf : Hp} {a : Addr} {vs : List V} {ds : List D} (e : Hf a = some (.lst vs)) (l : DenL K w Hf ds vs) : WalkSpec K w (Ite K a) Hf (ds.zipIdx.map fun p => .tup [.int (p.2 : Nat), p.1]) := by
  intro Hg H s1 s2 i
  have q : SqL K H a vs := SqL.of (s2 _ _ (s1 _ _ e))
  refine ⟨fun h => ⟨vs, q, by rw [← l.length]; simpa using h⟩, fun h => ?_, fun x H' d L y hd f => ?_⟩
  · have h : i < vs.length := by rw [← l.length]; simpa using h
    exact ⟨vs, vs[i], q, List.getElem?_eq_getElem _⟩
  · obtain ⟨T, u, rfl, hT, rfl, y⟩ := y
    rw [List.getElem?_map, List.getElem?_zipIdx] at hd
    cases hi : ds[i]? with
    | none => rw [hi] at hd; cases hd
    | some d0 =>
      rw [hi] at hd
      have hd := Option.some.inj hd
      obtain ⟨v, h1, h2⟩ := l.get hi
      have := y vs q
      rw [h1] at this; cases this
      subst hd
      have e0 : ((0 + i : Nat) : Int) = (i : Nat) := by rw [Nat.zero_add]
      show ∃ Hg', Den K w Hg' (.tup [.int ((0 + i : Nat) : Int), d0]) _ ∧ _
      rw [e0]
      exact pair_new s2 hT f (.int _) (h2.mono s1)
theorem zip_get {α β : Type} : ∀ {xs : List α} {ys : List β} {i : Nat} {p : α × β}, (xs.zip ys)[i]? = some p → xs[i]? = some p.1 ∧ ys[i]? = some p.2
  | [], _, _, _, e => by simp at e
  | _ :: _, [], _, _, e => by simp at e
  | x :: xs, y :: ys, 0, p, e => by simp at e; subst e; exact ⟨rfl, rfl⟩
  | x :: xs, y :: ys, i + 1, p, e => by
    have := zip_get (xs := xs) (ys := ys) (i := i) (p := p) (by simpa using e)
    simpa using this
theorem walk_zip {K : PySem.W.Frag} {w : World} {Hf : Hp} {a b : Addr} {vs us : List V} {ds es : List D} (e : Hf a = some (.lst vs)) (l : DenL K w Hf ds vs) (e' : Hf b = some (.lst us)) (l' : DenL K w Hf es us) : WalkSpec K w (Itz K a b) Hf ((ds.zip es).map fun p => .tup [p.1, p.2]) := by
  intro Hg H s1 s2 i
  have q : SqL K H a vs := SqL.of (s2 _ _ (s1 _ _ e))
  have q' : SqL K H b us := SqL.of (s2 _ _ (s1 _ _ e'))
  have e1 := l.length
  have e2 := l'.length
  refine ⟨fun h => ⟨vs, us, q, q', ?_⟩, fun h => ?_, fun x H' d L y hd f => ?_⟩
  · have h : min ds.length es.length ≤ i := by simpa using h
    omega
  · have h : i < min ds.length es.length := by simpa using h
    exact ⟨vs, us, vs[i]'(by omega), us[i]'(by omega), q, q', List.getElem?_eq_getElem _, List.getElem?_eq_getElem _⟩
  · obtain ⟨T, u, u', rfl, hT, rfl, y, y'⟩ := y
    rw [List.getElem?_map] at hd
    cases hi : (ds.zip es)[i]? with
    | none => rw [hi] at hd; cases hd
    | some p =>
      rw [hi] at hd
      have hd := Option.some.inj hd
      obtain ⟨z1, z2⟩ := zip_get hi
      obtain ⟨v, h1, h2⟩ := l.get z1
      obtain ⟨v', h1', h2'⟩ := l'.get z2
      have := y vs q
      rw [h1] at this; cases this
      have := y' us q'
      rw [h1'] at this; cases this
      subst hd
      exact pair_new s2 hT f (h2.mono s1) (h2'.mono s1)
theorem walk_zipT {K : PySem.W.Frag} {w : World} {Hf : Hp} {a b : Addr} {vs us : List V} {ds es : List D} (e : SqT K Hf a vs) (l : DenL K w Hf ds vs) (e' : SqT K Hf b us) (l' : DenL K w Hf es us) : WalkSpec K w (RZ.ItzT K a b) Hf ((ds.zip es).map fun p => .tup [p.1, p.2]) := by
  intro Hg H s1 s2 i
  have q : SqT K H a vs := SqT.same s2 (SqT.same s1 e)
  have q' : SqT K H b us := SqT.same s2 (SqT.same s1 e')
  have e1 := l.length
  have e2 := l'.length
  refine ⟨fun h => ⟨vs, us, q, q', ?_⟩, fun h => ?_, fun x H' d L y hd f => ?_⟩
  · have h : min ds.length es.length ≤ i := by simpa using h
    omega
  · have h : i < min ds.length es.length := by simpa using h
    exact ⟨vs, us, vs[i]'(by omega), us[i]'(by omega), q, q', List.getElem?_eq_getElem _, List.getElem?_eq_getElem _⟩
  · obtain ⟨T, u, u', rfl, hT, rfl, y, y'⟩ := y
    rw [List.getElem?_map] at hd
    cases hi : (ds.zip es)[i]? with
    | none => rw [hi] at hd; cases hd
    | some p =>
      rw [hi] at hd
      have hd := Option.some.inj hd
      obtain ⟨z1, z2⟩ := zip_get hi
      obtain ⟨v, h1, h2⟩ := l.get z1
      obtain ⟨v', h1', h2'⟩ := l'.get z2
      have := y vs q
      rw [h1] at this; cases this
      have := y' us q'
      rw [h1'] at this; cases this
      subst hd
      exact pair_new s2 hT f (h2.mono s1) (h2'.mono s1)

theorem it_enum (c : CxOk X lv) {nm : Nms} (n : NmOk X nm) {tpos : Pos} {elts : List Expr} {kk : Nat} {y : Str} {a : Expr} {ra : Env → Res Ar} {p pos : Pos} (hy : Str.ofString "enumerate" = y) (hg : glB nm y = true) (hp : plainX a = true) (ha : Snd X xi W a ra) :
    SndIt X xi W (.Tuple elts kk tpos) (.Call (.Name y p) [a] [] pos) (fun env => (ra env).bind fun x env => (item x env).bind fun dx env => Res.of (enumF dx) env) := by
  subst hy
  refine impI (pi_enum3 (n.gl _ hg) (c.blt "enumerate" (by decide)) (pa_cons ha.pe pa_nil (starEach_plain hp)) (starEach_plain hp)) fun σ H Q q => ?_
  refine bindF (R1 := RAr) (R2 := RWalk X.K X.w) q fun Hf L a env1 v T1 Hf1 H1 L1 r1 sl1 st1 fam1 fin => ?_
  obtain ⟨d, env2, Hf2, L2, dn, sl2, st2, fam2, fin2⟩ := item_fin (M := []) r1 sl1 st1 fam1 fin
  cases dn with
  | lst hq l => exact .inl ⟨_, _, rfl, .inl ⟨SqL.of (st2.sub _ _ hq), fin_walk fin2 sl2 st2 fam2 (walk_enum hq l)⟩⟩
  | tup hq l => exact .inl ⟨_, _, rfl, .inr ⟨SqT.same st2.sub hq, fin_walk fin2 sl2 st2 fam2 (walk_enumT hq l)⟩⟩
  | str z => exact .inr ⟨_, rfl, fin_walk fin2 sl2 st2 fam2 walk_enumS⟩
  | _ => exact fin2.elim
theorem it_zip (c : CxOk X lv) {nm : Nms} (n : NmOk X nm) {tpos : Pos} {elts : List Expr} {kk : Nat} {y : Str} {a b : Expr} {ra rb : Env → Res Ar} {p pos : Pos} (hy : Str.ofString "zip" = y) (hg : glB nm y = true) (hp : plainX a = true) (hp2 : plainX b = true) (ha : Snd X xi W a ra) (hb : Snd X xi W b rb)
    (hpl : (backTo pos (starEach [b] X.env)).any (·.1) = false) :
    SndIt X xi W (.Tuple elts kk tpos) (.Call (.Name y p) [a, b] [] pos) (fun env => (ra env).bind fun x env => (item x env).bind fun dx env => (rb env).bind fun y env => (item y env).bind fun dy env => Res.of (zipF dx dy) env) := by
  subst hy
  refine impI (RZ.pi_zipA (n.gl _ hg) (c.blt "zip" (by decide)) (pa_cons (snd_item ha.pe) (pa_cons (snd_item hb.pe) pa_nil (starEach_plain hp2)) (starEach_plain hp)) (starEach_plain hp) hpl) fun σ H Q q => ?_
  have q' : tG X.K X.w xi W (RWalk X.K X.w) (fun env => ((ra env).bind item).bind fun dx env => ((rb env).bind item).bind fun dy env => Res.of (zipF dx dy) env) σ H Q := tG_congr (fun env => by
    cases ra env with
    | ok a e =>
      show (item a e).bind _ = (item a e).bind _
      cases item a e with
      | ok d e2 =>
        show (rb e2).bind _ = ((rb e2).bind item).bind _
        cases rb e2 <;> rfl
      | _ => rfl
    | _ => rfl) q
  refine bindF (R1 := RD X.K X.w) (R2 := RWalk X.K X.w) q' fun Hf L d env1 v T1 Hf1 H1 L1 r1 sl1 st1 fam1 fin => ?_
  obtain ⟨dn, rfl⟩ := r1
  refine bindG (R1 := RD X.K X.w) (R2 := RWalk X.K X.w) (T := []) st1 fam1 sl1 fin fun d2 env2 v2 T2 Hf2 H2 L2 r2 sl2 st2 fam2 st12 fin2 => ?_
  obtain ⟨dn2, rfl⟩ := r2
  have dn := dn.mono st12.subf
  cases dn with
  | lst hq l =>
    cases dn2 with
    | lst hq' l' => exact ⟨_, _, _, _, rfl, .inl ⟨SqL.of (st2.sub _ _ hq), SqL.of (st2.sub _ _ hq'), fin_walk fin2 sl2 st2 fam2 (walk_zip hq l hq' l')⟩⟩
    | _ => exact fin2.elim
  | tup hq l =>
    cases dn2 with
    | tup hq' l' => exact ⟨_, _, _, _, rfl, .inr ⟨SqT.same st2.sub hq, SqT.same st2.sub hq', fin_walk fin2 sl2 st2 fam2 (walk_zipT hq l hq' l')⟩⟩
    | _ => exact fin2.elim
  | _ => exact fin2.elim
end
end PyEv

set_option maxRecDepth 100000
set_option maxHeartbeats 2000000
/-! PyFs: f-strings of texts. -/
namespace PyEv
open PySem L2
variable [TabL]
section
variable {X : Cx} {xi : XI} {W : WX}
def RS : RR Str Str := fun _ _ a b T => a = b ∧ T = []
/-- the parts of an f-string -/
def SndJs (X : Cx) (xi : XI) (W : WX) (xs : List Expr) (rj : Str → Env → Res Str) : Prop :=
  ∃ ts, PJ X xs ts ∧ ∀ (acc : Str) (σ : St) (H : Hp) (Q : Str → Hp → Prop), tG X.K X.w xi W RS (rj acc) σ H Q → tJs ts acc σ H Q
theorem js_nil : SndJs X xi W [] (fun acc env => .ok acc env) := by
  refine ⟨[], .nil, fun acc σ H Q q => ?_⟩
  obtain ⟨Hf, env, L, s0, fin⟩ := q
  exact fin acc [] Hf H L ⟨rfl, rfl⟩ s0.sl (Step.refl s0.sub) s0.fam
theorem js_next {ra : Env → Res Ar} {rj : Str → Env → Res Str} {acc : Str} {σ : St} {H : Hp} {Q : Str → Hp → Prop} {Q' : VK}
    (q : tG X.K X.w xi W RS (fun env => (ra env).bind fun a env => match use env a with
      | some (.str y) => if (acc ++ y).length ≤ line then rj (acc ++ y) env else .bad
      | _ => .bad) σ H Q) (k : ∀ y H1, (acc ++ y).length ≤ line → tG X.K X.w xi W RS (rj (acc ++ y)) σ H1 Q → Q' (.str y) H1) :
    tG X.K X.w xi W RAr ra σ H Q' := by
  refine bindF (R1 := RAr) (R2 := RS) q fun Hf L a env1 v T1 Hf1 H1 L1 r1 sl1 st1 fam1 fin => ?_
  cases e : use env1 a with
  | none => simp only [e] at fin; exact fin.elim
  | some d =>
    cases d <;> first | (simp only [e] at fin; exact fin.elim) | skip
    rename_i y
    simp only [e] at fin
    by_cases hz : (acc ++ y).length ≤ line
    · rw [if_pos hz] at fin
      have ev := (use_view r1 (fun _ h => h) sl1 fam1 e).str
      subst ev
      refine k y H1 hz ?_
      have fin' : Fin X.K X.w xi W RS σ Hf H L ((rj (acc ++ y) env1).bind fun o e => .ok o e) Q := by
        cases er : rj (acc ++ y) env1 <;> (rw [er] at fin; exact fin)
      refine bindG (R1 := RS) (R2 := RS) st1 fam1 sl1 fin' fun out env2 b T2 Hf2 H2 L2 r2 sl2 st2 fam2 st12 fin2 => ?_
      obtain ⟨rfl, rfl⟩ := r2
      exact fin2 out [] Hf2 H2 L2 ⟨rfl, rfl⟩ sl2 (st2.less fun b q => Owned.append.mpr (.inr q)) (fam2.sub (List.sublist_append_right _ _))
    · rw [if_neg hz] at fin
      exact fin.elim
theorem js_fmt {e : Expr} {xs : List Expr} {pos : Pos} {ra : Env → Res Ar} {rj : Str → Env → Res Str} (he : Snd X xi W e ra) (hs : SndJs X xi W xs rj) :
    SndJs X xi W (.FormattedValue e (-1) none pos :: xs) (fun acc env => (ra env).bind fun a env => match use env a with
      | some (.str y) => if (acc ++ y).length ≤ line then rj (acc ++ y) env else .bad
      | _ => .bad) := by
  obtain ⟨ts, pj, h⟩ := hs
  refine ⟨_, .cons (pe_fmt he.pe) pj, fun acc σ H Q q => ?_⟩
  show tG X.K X.w xi W RAr ra σ H _
  refine js_next q fun y H1 hz q1 => .inl ⟨y, rfl, ?_, y, rfl, hz, h _ _ _ _ q1⟩
  have e2 : (acc ++ y).length = acc.length + y.length := strLen_append ..
  have e3 : line = sizeLine := rfl
  omega
theorem js_con {e : Expr} {xs : List Expr} {ra : Env → Res Ar} {rj : Str → Env → Res Str} (he : Snd X xi W e ra) (hs : SndJs X xi W xs rj) :
    SndJs X xi W (e :: xs) (fun acc env => (ra env).bind fun a env => match use env a with
      | some (.str y) => if (acc ++ y).length ≤ line then rj (acc ++ y) env else .bad
      | _ => .bad) := by
  obtain ⟨ts, pj, h⟩ := hs
  refine ⟨_, .cons he.pe pj, fun acc σ H Q q => ?_⟩
  show tG X.K X.w xi W RAr ra σ H _
  exact js_next q fun y H1 hz q1 => ⟨y, rfl, hz, h _ _ _ _ q1⟩
theorem snd_fstr {l : List Expr} {pos : Pos} {rj : Str → Env → Res Str} (h2 : 2 ≤ l.length) (hs : SndJs X xi W l rj) :
    Snd X xi W (.JoinedStr l pos) (fun env => (rj Str.empty env).bind fun z env => .ok (.val (.d (.str z))) env) := by
  obtain ⟨ts, pj, h⟩ := hs
  match l, h2, pj with
  | v1 :: v2 :: rest, _, pj =>
    refine Snd.of_pe rfl (impE (pe_joined pj) fun σ H Q q => ?_)
    refine h _ _ _ _ ?_
    refine bindF (R1 := RS) (R2 := RAr) q fun Hf L z env1 b T1 Hf1 H1 L1 r1 sl1 st1 fam1 fin => ?_
    obtain ⟨rfl, rfl⟩ := r1
    exact fin_d (M := []) fin sl1 st1 fam1 (.str _)
end
end PyEv

set_option maxRecDepth 100000
set_option maxHeartbeats 2000000
/-! PyU: a, b = a text of two signs. -/
namespace PyEv
open PySem PySem.Spec PyProof.Rows L2
variable [TabL]

section
variable {prog : Program} {w : World} {A : Around} {E : Value → Shared → Prop} {s : Shared}
theorem unpackItems_str2 {x : Str} {t : Tok} {c d : Nat} {Q : List Value → Shared → Prop} (hh : A.handled = none) (hx : x.cps = #[c, d]) (ha : x.cps.all (· < 128) = true)
    (hQ : ∀ h' tk t1 t2, Heap.ExtBut s.heap.objs.size s.heap h' → Q [.str ⟨#[c]⟩ t1, .str ⟨#[d]⟩ t2] { s with heap := h', toks := tk }) : wpAny (model prog w) A (unpackItems (.str x t) 2 none) Q E s := by
  unfold unpackItems
  refine wpAny_bind ?_
  unfold notIterableAtAll
  refine wpAny_bind (wpAny_specialOf (typeIs_str s x t) PySem.F.slot_str_iter.lookup ?_)
  refine wpAny_pure ?_
  simp only [Bool.false_eq_true, if_false]
  refine wpAny_bind (wpAny_holding (wpAny_pyIter_ascii ha ?_))
  have e0 : x.cps[0]? = some c := by rw [hx]; rfl
  have e1 : x.cps[1]? = some d := by rw [hx]; rfl
  have e2 : x.cps[2]? = none := by rw [hx]; rfl
  refine wpAny_bind (wpAny_holding ?_)
  show wpAny _ _ (draw (.ref s.heap.objs.size) 2) _ _ _
  show wpAny _ _ (pyNext (.ref s.heap.objs.size) >>= _) _ _ _
  refine wpAny_bind (wpAny_pyNext_ascii_item ⟨_, Heap.get?_push_size _ rfl, rfl, rfl⟩ e0 fun h1 i1 s1 => ?_)
  refine wpAny_bind (wpAny_holding ?_)
  show wpAny _ _ (pyNext (.ref s.heap.objs.size) >>= _) _ _ _
  refine wpAny_bind (wpAny_pyNext_ascii_item i1 e1 fun h2 i2 s2 => ?_)
  refine wpAny_bind (wpAny_holding ?_)
  show wpAny _ _ (pure []) _ _ _
  refine wpAny_pure (wpAny_pure (wpAny_pure ?_))
  rw [if_neg (by simp)]
  refine wpAny_bind (wpAny_holding (wpAny_pyNext_ascii_end hh i2 e2 fun h3 s3 => ?_))
  simp only [Option.isSome_none, Bool.false_eq_true, if_false]
  exact wpAny_pure (hQ h3 _ _ _ fun b o hb e => s3 b o hb ((s1.trans s2).extBut b o hb (Heap.get?_push_of_some _ e)))
end
/-- (a, b) = a text of two signs below 128 -/
def gStr2 (t : TGs) : TG := fun v σ H Q => ∃ z c d, v = .str z ∧ z.cps = #[c, d] ∧ c < 128 ∧ d < 128 ∧ t [.str ⟨#[c]⟩, .str ⟨#[d]⟩] σ H Q
theorem pg_str2 {X : Cx} {es : List Expr} {k : Nat} {t : TGs} {pos : Pos} (hc : X.calm = true) (h : PGs X es t) (hn : (assignEach es X.env).length = 2) (hst : (assignEach es X.env).findIdx? (·.1) = none) : PG X (.Tuple es k pos) (gStr2 t) := by
  refine ⟨fun pins s σ H v u Q I r hw => ?_⟩
  obtain ⟨z, c, d, rfl, hz, h1, h2, hw⟩ := hw
  obtain ⟨tk, rfl⟩ := r
  rw [assign_Tuple]
  refine wpAny_bind (wpAny_standAt ?_)
  unfold unpack
  rw [hn, hst]
  refine wpAny_bind (wpAny_holding (unpackItems_str2 (I.ok.hd hc) hz (by rw [hz]; simp [h1, h2]) fun h' tk' t1 t2 hx => ?_))
  have I1 : Inv X pins σ H { s with heap := h', toks := tk' } := I.kept fun b o e => hx b o (Nat.ne_of_lt (Heap.lt_size e)) e
  exact h.run pins _ σ H _ _ Q I1 (.cons (show RelV (.str ⟨#[c]⟩) _ from ⟨t1, rfl⟩) (.cons (show RelV (.str ⟨#[d]⟩) _ from ⟨t2, rfl⟩) .nil)) hw
theorem pg_or {X : Cx} {e : Expr} {t u : TG} (h1 : PG X e t) (h2 : PG X e u) : PG X e (fun v σ H Q => t v σ H Q ∨ u v σ H Q) :=
  ⟨fun pins s σ H v x Q I r hw => hw.elim (h1.run pins s σ H v x Q I r) (h2.run pins s σ H v x Q I r)⟩
end PyEv

set_option maxRecDepth 100000
set_option maxHeartbeats 2000000
/-! PyC1: list comprehensions. -/
namespace PyEv
open PySem L2
variable [TabL]

/-! ### targets -/
section
/-- slots that only some state agrees on -/
theorem Sl.congr : ∀ {env : Env} {σ σ' : St} {L : List WV}, Sl env σ L → σ'.length = σ.length → (∀ (i : Nat) x v, slot env i = some x → σ[i]? = some (some v) → σ'[i]? = some (some v)) → Sl env σ' L
  | _, _, [], _, .nil, _, _ => .nil
  | _, _, s' :: σ', _, .nil, h, _ => by simp at h
  | _, _, [], _, .skip _, h, _ => by simp at h
  | _, _, [], _, .cons _, h, _ => by simp at h
  | _, _, s' :: σ', _, .skip h, hl, hs => .skip (Sl.congr h (by simpa using hl) fun i x v e1 e2 => by
      have := hs (i + 1) x v (by rw [slot_succ]; exact e1) (by simpa using e2)
      simpa using this)
  | _, _, s' :: σ', _, .cons (x := x) (v := v) h, hl, hs => by
      have h0 := hs 0 x v slot_zero rfl
      simp at h0; subst h0
      exact .cons (Sl.congr h (by simpa using hl) fun i x v e1 e2 => by
        have := hs (i + 1) x v (by rw [slot_succ]; exact e1) (by simpa using e2)
        simpa using this)
theorem slot_set {env : Env} {i j : Nat} {o : Option W} : slot (env.set i o) j = if i = j then (if i < env.length then o else none) else slot env j := by
  unfold slot
  rw [List.getD_eq_getElem?_getD, List.getD_eq_getElem?_getD, List.getElem?_set]
  split
  · rename_i h
    split <;> rfl
  · rfl
theorem wipeE_slot {env : Env} {j : Nat} {x : W} : ∀ {own : List (Str × Nat)}, slot (wipeE env own) j = some x → j ∉ own.map (·.2)
  | [], _ => by simp
  | p :: r, h => by
    have h : slot ((wipeE env r).set p.2 none) j = some x := h
    rw [slot_set] at h
    split at h
    · split at h <;> cases h
    · rename_i hne
      have := wipeE_slot h
      simp only [List.map_cons, List.mem_cons, not_or]
      exact ⟨fun e => hne e.symm, this⟩
theorem wipeE_length {env : Env} : ∀ {own : List (Str × Nat)}, (wipeE env own).length = env.length
  | [] => rfl
  | p :: r => by
    show ((wipeE env r).set p.2 none).length = _
    rw [List.length_set, wipeE_length]
theorem Sl.wipe {env : Env} {σ : St} {L : List WV} (h : Sl env σ L) : ∀ (own : List (Str × Nat)), ∃ M, Sl (wipeE env own) σ M ∧ M.Sublist L
  | [] => ⟨L, h, List.Sublist.refl _⟩
  | p :: r => by
    obtain ⟨M, a, b⟩ := Sl.wipe h r
    obtain ⟨M', a', b'⟩ := a.drop p.2
    exact ⟨M', a', b'.trans b⟩
theorem wipe_at {σ : St} {i : Nat} : ∀ {vs : List Nat}, i ∉ vs → (wipe σ vs)[i]? = σ[i]?
  | [], _ => rfl
  | v :: vs, h => by
    simp only [List.mem_cons, not_or] at h
    show ((wipe σ vs).set v none)[i]? = _
    rw [List.getElem?_set_ne (fun e => h.1 e.symm), wipe_at h.2]
theorem Sl.wiped {env : Env} {own : List (Str × Nat)} {σ σ' : St} {M : List WV} (h : Sl (wipeE env own) σ M) (e : L2.wipe σ' (own.map (·.2)) = L2.wipe σ (own.map (·.2))) : Sl (wipeE env own) σ' M := by
  refine h.congr ?_ fun i x v e1 e2 => ?_
  · have := congrArg List.length e
    rwa [wipe_length, wipe_length] at this
  · have hn := wipeE_slot e1
    rw [← wipe_at hn, e, wipe_at hn, e2]
theorem Sl.wiped2 {env : Env} {own : List (Str × Nat)} {σ σ' : St} {M : List WV} (h : Sl (wipeE env own) σ M) (hl : σ'.length = σ.length) (e : ∀ i, i ∉ own.map (·.2) → σ'[i]? = σ[i]?) : Sl (wipeE env own) σ' M :=
  h.congr hl fun i x v e1 e2 => by rw [e i (wipeE_slot e1), e2]
theorem wipe_set {σ : St} {i : Nat} {o : Option V} {vs : List Nat} (h : i ∈ vs) : L2.wipe (σ.set i o) vs = L2.wipe σ vs := by
  apply List.ext_getElem?
  intro j
  by_cases hj : j ∈ vs
  · have go : ∀ (τ : St), τ.length = σ.length → (L2.wipe τ vs)[j]? = if j < σ.length then some none else none := fun τ hτ => by
      cases e : (L2.wipe τ vs)[j]? with
      | none =>
        rw [List.getElem?_eq_none_iff, wipe_length, hτ] at e
        rw [if_neg (by omega)]
      | some o =>
        cases o with
        | some v => exact absurd hj (wipe_some e).2
        | none =>
          have : j < (L2.wipe τ vs).length := (List.getElem?_eq_some_iff.mp e).1
          rw [wipe_length, hτ] at this
          rw [if_pos this]
    rw [go _ (by rw [List.length_set]), go _ rfl]
  · rw [wipe_at hj, wipe_at hj, List.getElem?_set_ne (fun e => hj (by rw [← e]; exact h))]
end

/-- a slot stored with data -/
theorem store_len {keep : List Nat} {i : Nat} {x : W} {env env1 : Env} (e : store keep i x env = some env1) : i ∉ keep ∧ i < env.length ∧ env1 = env.set i (some x) := by
  unfold store at e
  split at e
  · cases e
  · rename_i h
    simp only [not_or, Nat.not_le] at h
    refine ⟨fun hk => h.1 (by simpa using hk), h.2, (Option.some.inj e).symm⟩
/-- the slot's old thing out, the new in -/
theorem Sl.put2 {K : PySem.W.Frag} {w : World} {Hf H Hf0 H0 : Hp} {L L0 T : List WV} {env : Env} {σ : St} {i : Nat} {x : W} {v : V} (sl : Sl env σ L) (hi : i < env.length) (st : Step Hf0 H0 L0 Hf H ((x, v) :: (T ++ L))) (fam : Fam K w Hf H ((x, v) :: (T ++ L))) :
    ∃ L', Sl (env.set i (some x)) (σ.set i (some v)) L' ∧ Step Hf0 H0 L0 Hf H (T ++ L') ∧ Fam K w Hf H (T ++ L') := by
  obtain ⟨M, a, b⟩ := sl.drop i
  obtain ⟨L', a', p⟩ := a.put (x := x) (v := v) hi
  have sub : ((x, v) :: (T ++ M)).Sublist ((x, v) :: (T ++ L)) := (b.append_left T).cons_cons _
  have pm : ((x, v) :: (T ++ M)).Perm (T ++ L') := (List.perm_middle.symm).trans ((List.perm_append_left_iff T).mpr p.symm)
  refine ⟨L', a', st.less fun c hc => ?_, (fam.sub sub).perm pm⟩
  obtain ⟨q, hq, hc⟩ := (Owned.perm pm).mpr hc
  exact ⟨q, sub.mem hq, hc⟩
/-- .. of data -/
theorem Sl.storeD {K : PySem.W.Frag} {w : World} {Hf H Hf0 H0 : Hp} {L L0 T : List WV} {env env1 : Env} {σ : St} {keep : List Nat} {i : Nat} {d : D} {v : V} (e : store keep i (.d d) env = some env1) (sl : Sl env σ L) (st : Step Hf0 H0 L0 Hf H (T ++ L)) (fam : Fam K w Hf H (T ++ L)) (dn : Den K w Hf d v) :
    ∃ L', Sl env1 (σ.set i (some v)) L' ∧ Step Hf0 H0 L0 Hf H (T ++ L') ∧ Fam K w Hf H (T ++ L') := by
  obtain ⟨_, hi, rfl⟩ := store_len e
  refine sl.put2 hi (st.less fun c hc => ?_) (fam.cons_d dn)
  rcases Owned.cons.mp hc with hc | hc
  · cases hc
  · exact hc

theorem ne_keep {keep : List Nat} {i j : Nat} (h : i ∉ keep) (hj : j ∈ keep) : i ≠ j := fun z => h (by rw [z]; exact hj)
def tgSlots : Tg → List Nat
  | .one i => [i]
  | .two i j => [i, j]
  | .three i j k => [i, j, k]
/-- a target taken from data, kept in a plain form -/
def gTg (K : PySem.W.Frag) : Tg → TG
  | .one i => gName i
  | .two i j => fun v σ H Q => gTup K 2 (gCons (gName i) (gCons (gName j) gNil)) v σ H Q ∨ gStr2 (gCons (gName i) (gCons (gName j) gNil)) v σ H Q
  | .three i j k => gTup K 3 (gCons (gName i) (gCons (gName j) (gCons (gName k) gNil)))
section
variable {X : Cx} {xi : XI} {W : WX} {lv : Nat}
theorem pg_nm {N : List Str} {nm : Nms} (hN : X.N = N) (hd : X.N.Nodup) (n : NmOk X nm) {i : Nat} {x : Str} {pos : Pos} (h1 : N[i]? = some x) (h2 : locB nm x = true) : PG X (.Name x pos) (gName i) := by
  obtain ⟨a, b⟩ := n.loc x h2
  exact pg_name hd (by rw [hN]; exact h1) a b
theorem pg_tg {N : List Str} {nm : Nms} (c : CxOk X lv) (hN : X.N = N) (n : NmOk X nm) {tg : Tg} {t : Expr} (h : tgOk N nm tg t = true) : PG X t (gTg X.K tg) := by
  unfold tgOk at h
  split at h
  · simp only [Bool.and_eq_true, decide_eq_true_eq] at h
    exact pg_nm hN c.nd n h.1.1 h.1.2
  · simp only [Bool.and_eq_true, decide_eq_true_eq] at h
    obtain ⟨⟨⟨⟨⟨h1, h2⟩, h3⟩, h4⟩, h5⟩, h6⟩ := h
    exact pg_or (pg_tup c.calm (pgs_cons (pg_nm hN c.nd n h1 h2) (pgs_cons (pg_nm hN c.nd n h4 h5) pgs_nil))) (pg_str2 c.calm (pgs_cons (pg_nm hN c.nd n h1 h2) (pgs_cons (pg_nm hN c.nd n h4 h5) pgs_nil)) rfl rfl)
  · simp only [Bool.and_eq_true, decide_eq_true_eq] at h
    obtain ⟨⟨⟨⟨⟨⟨⟨⟨h1, h2⟩, h3⟩, h4⟩, h5⟩, h6⟩, h7⟩, h8⟩, h9⟩ := h
    exact pg_tup c.calm (pgs_cons (pg_nm hN c.nd n h1 h2) (pgs_cons (pg_nm hN c.nd n h4 h5) (pgs_cons (pg_nm hN c.nd n h7 h8) pgs_nil)))
  · cases h
theorem tgOk_slots {N : List Str} {nm : Nms} {tg : Tg} {t : Expr} (h : tgOk N nm tg t = true) : ∀ i ∈ tgSlots tg, ∃ x, N[i]? = some x ∧ locB nm x = true := by
  unfold tgOk at h
  split at h
  · simp only [Bool.and_eq_true, decide_eq_true_eq] at h
    intro k hk
    rcases List.mem_singleton.mp hk with rfl
    exact ⟨_, h.1.1, h.1.2⟩
  · simp only [Bool.and_eq_true, decide_eq_true_eq] at h
    obtain ⟨⟨⟨⟨⟨h1, h2⟩, h3⟩, h4⟩, h5⟩, h6⟩ := h
    intro k hk
    simp only [tgSlots, List.mem_cons, List.not_mem_nil, or_false] at hk
    rcases hk with rfl | rfl
    · exact ⟨_, h1, h2⟩
    · exact ⟨_, h4, h5⟩
  · simp only [Bool.and_eq_true, decide_eq_true_eq] at h
    obtain ⟨⟨⟨⟨⟨⟨⟨⟨h1, h2⟩, h3⟩, h4⟩, h5⟩, h6⟩, h7⟩, h8⟩, h9⟩ := h
    intro k hk
    simp only [tgSlots, List.mem_cons, List.not_mem_nil, or_false] at hk
    rcases hk with rfl | rfl | rfl
    · exact ⟨_, h1, h2⟩
    · exact ⟨_, h4, h5⟩
    · exact ⟨_, h7, h8⟩
  · cases h
/-- a target stored: only its slots change -/
theorem tg_fin {K : PySem.W.Frag} {w : World} {keep : List Nat} {tg : Tg} {d : D} {v : V} {env env1 : Env} {σ : St} {Hf H Hf0 H0 : Hp} {L L0 T : List WV} {Q : St → Hp → Prop} (e : assignTg keep tg d env = some env1) (sl : Sl env σ L) (st : Step Hf0 H0 L0 Hf H (T ++ L)) (fam : Fam K w Hf H (T ++ L)) (dn : Den K w Hf d v)
    (q : ∀ σ' L', Sl env1 σ' L' → Step Hf0 H0 L0 Hf H (T ++ L') → Fam K w Hf H (T ++ L') → σ'.length = σ.length → (∀ vs : List Nat, (∀ i ∈ tgSlots tg, i ∈ vs) → L2.wipe σ' vs = L2.wipe σ vs) → (∀ i, i ∈ keep → σ'[i]? = σ[i]?) → Q σ' H) : gTg K tg v σ H Q := by
  cases tg with
  | one i =>
    have e : store keep i (.d d) env = some env1 := e
    obtain ⟨L', a, b, c⟩ := Sl.storeD e sl st fam dn
    exact q _ L' a b c (by rw [List.length_set]) (fun vs h => wipe_set (h i (by simp [tgSlots]))) fun j hj => List.getElem?_set_ne (ne_keep (store_len e).1 hj)
  | two i j =>
    cases dn with
    | tup hq l =>
      cases l with
      | nil => cases e
      | cons d1 l =>
        cases l with
        | nil => cases e
        | cons d2 l =>
          cases l with
          | cons _ _ => cases e
          | nil =>
            rename_i x u y u'
            have e : (store keep i (.d x) env).bind (store keep j (.d y)) = some env1 := e
            cases e1 : store keep i (.d x) env with
            | none => rw [e1] at e; cases e
            | some env2 =>
              rw [e1] at e
              have e : store keep j (.d y) env2 = some env1 := e
              obtain ⟨L', a, b, c⟩ := Sl.storeD e1 sl st fam d1
              obtain ⟨L2, a2, b2, c2⟩ := Sl.storeD e a b c d2
              refine .inl ⟨_, _, rfl, SqT.same st.sub hq, rfl, _, _, rfl, _, _, rfl, rfl, q _ L2 a2 b2 c2 (by rw [List.length_set, List.length_set]) (fun vs h => ?_) fun k hk => ?_⟩
              · rw [wipe_set (h j (by simp [tgSlots])), wipe_set (h i (by simp [tgSlots]))]
              · rw [List.getElem?_set_ne (ne_keep (store_len e).1 hk), List.getElem?_set_ne (ne_keep (store_len e1).1 hk)]
    | str z =>
      have e : (match z.cps.toList with
        | [c, d] => if c < 128 ∧ d < 128 then (store keep i (.d (.str ⟨#[c]⟩)) env).bind (store keep j (.d (.str ⟨#[d]⟩))) else none
        | _ => none) = some env1 := e
      split at e
      · rename_i c d hz
        by_cases hcd : c < 128 ∧ d < 128
        · rw [if_pos hcd] at e
          cases e1 : store keep i (.d (.str ⟨#[c]⟩)) env with
          | none => rw [e1] at e; cases e
          | some env2 =>
            rw [e1] at e
            have e : store keep j (.d (.str ⟨#[d]⟩)) env2 = some env1 := e
            obtain ⟨L', a, b, c'⟩ := Sl.storeD e1 sl st fam (.str _)
            obtain ⟨L2, a2, b2, c2⟩ := Sl.storeD e a b c' (.str _)
            refine .inr ⟨z, c, d, rfl, by rw [← Array.toList_inj, hz], hcd.1, hcd.2, _, _, rfl, _, _, rfl, rfl, q _ L2 a2 b2 c2 (by rw [List.length_set, List.length_set]) (fun vs h => ?_) fun k hk => ?_⟩
            · rw [wipe_set (h j (by simp [tgSlots])), wipe_set (h i (by simp [tgSlots]))]
            · rw [List.getElem?_set_ne (ne_keep (store_len e).1 hk), List.getElem?_set_ne (ne_keep (store_len e1).1 hk)]
        · rw [if_neg hcd] at e; cases e
      · cases e
    | _ => cases e
  | three i j k =>
    cases dn with
    | tup hq l =>
      cases l with
      | nil => cases e
      | cons d1 l =>
        cases l with
        | nil => cases e
        | cons d2 l =>
          cases l with
          | nil => cases e
          | cons d3 l =>
            cases l with
            | cons _ _ => cases e
            | nil =>
              rename_i x u y u' z u''
              have e : (store keep i (.d x) env).bind (fun env => (store keep j (.d y) env).bind (store keep k (.d z))) = some env1 := e
              cases e1 : store keep i (.d x) env with
              | none => rw [e1] at e; cases e
              | some env2 =>
                rw [e1] at e
                have e : (store keep j (.d y) env2).bind (store keep k (.d z)) = some env1 := e
                cases e2 : store keep j (.d y) env2 with
                | none => rw [e2] at e; cases e
                | some env3 =>
                  rw [e2] at e
                  have e : store keep k (.d z) env3 = some env1 := e
                  obtain ⟨L', a, b, c⟩ := Sl.storeD e1 sl st fam d1
                  obtain ⟨L2, a2, b2, c2⟩ := Sl.storeD e2 a b c d2
                  obtain ⟨L3, a3, b3, c3⟩ := Sl.storeD e a2 b2 c2 d3
                  refine ⟨_, _, rfl, SqT.same st.sub hq, rfl, _, _, rfl, _, _, rfl, _, _, rfl, rfl, q _ L3 a3 b3 c3 (by rw [List.length_set, List.length_set, List.length_set]) (fun vs h => ?_) fun m hm => ?_⟩
                  · rw [wipe_set (h k (by simp [tgSlots])), wipe_set (h j (by simp [tgSlots])), wipe_set (h i (by simp [tgSlots]))]
                  · rw [List.getElem?_set_ne (ne_keep (store_len e).1 hm), List.getElem?_set_ne (ne_keep (store_len e2).1 hm), List.getElem?_set_ne (ne_keep (store_len e1).1 hm)]
    | _ => cases e
end
end PyEv

set_option maxRecDepth 100000
set_option maxHeartbeats 2000000
/-! PyC2: list comprehensions, the turns. -/
namespace PyEv
open PySem L2
variable [TabL]

theorem wipe_eq {σ σ' : St} {vs : List Nat} (hl : σ'.length = σ.length) (h : ∀ i, i ∉ vs → σ'[i]? = σ[i]?) : L2.wipe σ' vs = L2.wipe σ vs := by
  apply List.ext_getElem?
  intro j
  by_cases hj : j ∈ vs
  · have go : ∀ (τ : St), τ.length = σ.length → (L2.wipe τ vs)[j]? = if j < σ.length then some none else none := fun τ hτ => by
      cases e : (L2.wipe τ vs)[j]? with
      | none =>
        rw [List.getElem?_eq_none_iff, wipe_length, hτ] at e
        rw [if_neg (by omega)]
      | some o =>
        cases o with
        | some v => exact absurd hj (wipe_some e).2
        | none =>
          have : j < (L2.wipe τ vs).length := (List.getElem?_eq_some_iff.mp e).1
          rw [wipe_length, hτ] at this
          rw [if_pos this]
    rw [go _ hl, go _ rfl]
  · rw [wipe_at hj, wipe_at hj, h j hj]
theorem wipe_wipe {σ : St} {vs : List Nat} : L2.wipe (L2.wipe σ vs) vs = L2.wipe σ vs := wipe_eq (wipe_length _ _) fun i h => wipe_at h

/-- where nothing is raised: an inner part with any wish -/
theorem bindN {α β γ δ : Type} {K : PySem.W.Frag} {w : World} {xi : XI} {X X' : WX} {R1 : RR α β} {R2 : RR γ δ} {r : Env → Res α} {f : α → Env → Res γ} {σ σ' : St} {Hf H Hf1 H1 : Hp} {L T L1 : List WV} {env1 : Env} {Q : δ → Hp → Prop} {Q' : β → Hp → Prop}
    (st : Step Hf H L Hf1 H1 (T ++ L1)) (fam : Fam K w Hf1 H1 (T ++ L1)) (sl : Sl env1 σ' L1) (fin : Fin K w xi X R2 σ Hf H L ((r env1).noX.bind f) Q)
    (next : ∀ a env2 b T2 Hf2 H2 L2, R1 σ' Hf2 a b T2 → Sl env2 σ' L2 → Step Hf H L Hf2 H2 (T ++ (T2 ++ L2)) → Fam K w Hf2 H2 (T ++ (T2 ++ L2)) → Step Hf1 H1 L1 Hf2 H2 (T2 ++ L2) → Fin K w xi X R2 σ Hf H L (f a env2) Q → Q' b H2) :
    tG K w xi X' R1 r σ' H1 Q' := by
  have famL : Fam K w Hf1 H1 L1 := fam.sub (List.sublist_append_right _ _)
  refine ⟨Hf1, env1, L1, ⟨sl, famL, st.sub⟩, ?_⟩
  cases e : r env1 with
  | ok a env2 =>
    intro b T2 Hf2 H2 L2 hR hs hst hf
    rw [e] at fin
    exact next a env2 b T2 Hf2 H2 L2 hR hs (st.trans hst) (fam.carry hst hf) hst fin
  | exc x env2 =>
    rw [e] at fin
    exact (show False from fin).elim
  | bad =>
    rw [e] at fin
    exact fin

section
variable {K : PySem.W.Frag} {w : World} {xi : XI} {X W0 : WX}
/-- the slots of a block back at a turn's end -/
theorem Sl.turn {own : List (Str × Nat)} {σ σ' : St} {env : Env} {L : List WV} (sl : Sl env σ' L) (h : L2.wipe σ' (own.map (·.2)) = L2.wipe σ (own.map (·.2))) :
    ∃ M, Sl (wipeE (wipeE env own) own) (L2.wipe σ (own.map (·.2))) M ∧ M.Sublist L := by
  obtain ⟨M, a, b⟩ := sl.wipe own
  obtain ⟨M', a', b'⟩ := (a.wiped (σ' := L2.wipe σ (own.map (·.2))) (wipe_wipe.trans h.symm)).wipe own
  exact ⟨M', a', b'.trans b⟩
theorem lc_run {keep : List Nat} {tg : Tg} {own : List (Str × Nat)} {it : Env → Res (List D)} {ct : Env → Res Bool} {ce : Env → Res D} {tt : TT} {σ : St} {H : Hp} {Q : VK}
    (hv : ∀ i ∈ tgSlots tg, i ∈ own.map (·.2)) (htt : ∀ σ H Q, tG K w xi W0 RB ct σ H Q → tt σ H Q)
    (q : tG K w xi X RAr (fun env => (it env).bind fun xs env => (lcL keep tg own ct ce xs [] env).bind fun ys env => .ok (.val (.lst ys)) (wipeE env own)) σ H Q) :
    tLc (tG K w xi X (RWalk K w) it) (gTg K tg) tt (tG K w xi W0 (RD K w) ce) (own.map (·.2)) σ H Q := by
  refine bindF (R1 := RWalk K w) (R2 := RAr) q fun Hf L xs env1 J T1 Hf1 H1 L1 r1 sl1 st1 fam1 fin => ?_
  obtain ⟨ws, rfl⟩ := r1
  intro A hA
  -- what stands at turn i
  let S : Nat → Hp → Prop := fun i H' => ∃ env' acc Hf' L', Sl (wipeE env' own) (L2.wipe σ (own.map (·.2))) L' ∧ Step Hf H L Hf' H' ([(.lst acc, .ref A)] ++ L') ∧ Fam K w Hf' H' ([(.lst acc, .ref A)] ++ L') ∧ Same Hf1 Hf' ∧
    Fin K w xi X RAr σ Hf H L ((lcL keep tg own ct ce (xs.drop i) acc env').bind fun ys env => .ok (.val (.lst ys)) (wipeE env own)) Q
  refine ⟨fun i m H' => m = xs.length - i ∧ i ≤ xs.length ∧ S i H', ⟨xs.length, by simp, Nat.zero_le _, ?_⟩, ?_⟩
  · obtain ⟨sA, fA⟩ := new_own (o := .lst []) (x := .lst []) st1.sub hA fam1 (.lst upd_same (none_of st1.sub hA) .nil)
    obtain ⟨M, a, b⟩ := sl1.wipe own
    have sub : ([((.lst [], .ref A) : WV)] ++ M).Sublist ((.lst [], .ref A) :: ([] ++ L1)) := b.cons_cons _
    exact ⟨env1, [], Hf1, M, a.wiped2 (wipe_length _ _) (fun i h => wipe_at h), (st1.tr sA).less (fun c ⟨q, hq, hc⟩ => ⟨q, sub.mem hq, hc⟩), fA.sub sub, Same.refl _, fin⟩
  · rintro i m H' ⟨rfl, hi, env', acc, Hf', L', sl', st', fam', sm, fin'⟩
    obtain ⟨w1, w2, w3⟩ := ws Hf' H' sm st'.sub i
    by_cases hlt : i < xs.length
    · have ex : xs.drop i = xs[i] :: xs.drop (i + 1) := List.drop_eq_getElem_cons hlt
      rw [ex] at fin'
      cases ea : assignTg keep tg xs[i] (wipeE env' own) with
      | none =>
        have : lcL keep tg own ct ce (xs[i] :: xs.drop (i + 1)) acc env' = .bad := by simp only [lcL, ea]
        rw [this] at fin'; exact fin'.elim
      | some env2 =>
        have : lcL keep tg own ct ce (xs[i] :: xs.drop (i + 1)) acc env' = (ct env2).noX.bind fun b env2 => if b = true then (ce env2).noX.bind fun y env3 => if acc.length < line then lcL keep tg own ct ce (xs.drop (i + 1)) (acc ++ [y]) (wipeE env3 own) else .bad
            else lcL keep tg own ct ce (xs.drop (i + 1)) acc (wipeE env2 own) := by simp only [lcL, ea]
        rw [this] at fin'
        have fin' : Fin K w xi X RAr σ Hf H L ((ct env2).noX.bind fun b env2 => (if b = true then (ce env2).noX.bind fun y env3 => if acc.length < line then lcL keep tg own ct ce (xs.drop (i + 1)) (acc ++ [y]) (wipeE env3 own) else .bad
            else lcL keep tg own ct ce (xs.drop (i + 1)) acc (wipeE env2 own)).bind fun ys env => .ok (.val (.lst ys)) (wipeE env own)) Q := by
          cases h : (ct env2) <;> (rw [h] at fin'; exact fin')
        refine .inr ⟨w2 hlt, S (i + 1), fun H2 s => ⟨xs.length - (i + 1), by omega, rfl, hlt, s⟩, fun x H2 hy => ?_⟩
        obtain ⟨Hg, dn, stp, fm⟩ := w3 x H2 xs[i] ([(.lst acc, .ref A)] ++ L') hy (List.getElem?_eq_getElem hlt) fam'
        refine tg_fin (T := [(.lst acc, .ref A)]) ea sl' (st'.tr stp) fm dn fun σ2 M2 sl2 st2 fam2 hlen hwp _ => ?_
        have hw2 : L2.wipe σ2 (own.map (·.2)) = L2.wipe σ (own.map (·.2)) := (hwp _ hv).trans wipe_wipe
        refine ⟨hw2, htt _ _ _ (bindN (R1 := RB) (R2 := RAr) st2 fam2 sl2 fin' fun b env3 b' T3 Hf3 H3 L3 r3 sl3 st3 fam3 st23 fin3 => ?_)⟩
        obtain ⟨rfl, rfl⟩ := r3
        have sm3 : Same Hf1 Hf3 := (sm.trans stp.subf).trans st23.subf
        cases b with
        | false =>
          simp only [Bool.false_eq_true, if_false] at fin3 ⊢
          obtain ⟨M, a, b⟩ := sl3.turn hw2
          have sub : ([((.lst acc, .ref A) : WV)] ++ M).Sublist ([(.lst acc, .ref A)] ++ ([] ++ L3)) := b.cons_cons _
          exact ⟨_, acc, Hf3, M, a, st3.less (fun c ⟨q, hq, hc⟩ => ⟨q, sub.mem hq, hc⟩), fam3.sub sub, sm3, fin3⟩
        | true =>
          simp only [if_true] at fin3 ⊢
          have fin3 : Fin K w xi X RAr σ Hf H L ((ce env3).noX.bind fun y env3 => (if acc.length < line then lcL keep tg own ct ce (xs.drop (i + 1)) (acc ++ [y]) (wipeE env3 own) else .bad).bind fun ys env => .ok (.val (.lst ys)) (wipeE env own)) Q := by
            cases h : (ce env3) <;> (rw [h] at fin3; exact fin3)
          refine bindN (R1 := RD K w) (R2 := RAr) st3 fam3 sl3 fin3 fun y env4 v T4 Hf4 H4 L4 r4 sl4 st4 fam4 st34 fin4 => ?_
          obtain ⟨dn4, rfl⟩ := r4
          by_cases hz : acc.length < line
          · rw [if_pos hz] at fin4
            have rA := fam4.rep (.lst acc, .ref A) (List.mem_append_left _ List.mem_cons_self)
            generalize eX : (PyEv.W.lst acc, V.ref A) = pA at rA
            have rA : RepW K w Hf4 H4 (.lst acc) (.ref A) := by rw [← eX] at rA; exact rA
            cases rA with
            | @lst _ _ us hus hn dl =>
              refine ⟨us, hus, by rw [← dl.length]; exact hz, ?_⟩
              obtain ⟨sB, fB⟩ := write_own (a := A) (o := .lst (us ++ [v])) (x := .lst acc) (y := .lst (acc ++ [y])) st4.sub fam4 (by simp [ad]) (by simp [ad]) (.lst upd_same hn (dl.append (.cons dn4 .nil)))
              obtain ⟨M, a, b⟩ := sl4.turn hw2
              have sub : ([((.lst (acc ++ [y]), .ref A) : WV)] ++ M).Sublist ([(.lst (acc ++ [y]), .ref A)] ++ ([] ++ L4)) := b.cons_cons _
              exact ⟨_, acc ++ [y], Hf4, M, a, (st4.tr sB).less (fun c ⟨q, hq, hc⟩ => ⟨q, sub.mem hq, hc⟩), fB.sub sub, sm3.trans st34.subf, fin4⟩
          · rw [if_neg hz] at fin4; exact fin4.elim
    · have e : i = xs.length := by omega
      subst e
      rw [List.drop_length] at fin'
      have fin' : Fin K w xi X RAr σ Hf H L (.ok (.val (.lst acc)) (wipeE env' own)) Q := fin'
      exact .inl ⟨w1 (Nat.le_refl _), fin' (.ref A) [(.lst acc, .ref A)] Hf' H' L' .val (sl'.wiped2 (wipe_length _ _).symm fun j hj => (wipe_at hj).symm) st' fam'⟩
end

/-! ### the block's context -/
section
variable {X : Cx} {xi : XI} {W : WX} {lv : Nat}
theorem lookup_relS_free {sc : Scope} : ∀ {names : List (Str × NameKind)} {x : Str}, names.lookup x = some .free →
    (names.map fun (n, k) => if (k == NameKind.free && sc.kind == .function && sc.names.lookup n == some .cell) then (n, NameKind.cell) else (n, k)).lookup x = some .cell ∨
    (names.map fun (n, k) => if (k == NameKind.free && sc.kind == .function && sc.names.lookup n == some .cell) then (n, NameKind.cell) else (n, k)).lookup x = some .free
  | [], _, h => by simp at h
  | (n, k₀) :: r, x, h => by
    have ih := @lookup_relS_free sc r x
    have go : ∀ p : Str × NameKind, List.map (fun (n, k) => if (k == NameKind.free && sc.kind == .function && sc.names.lookup n == some .cell) = true then (n, NameKind.cell) else (n, k)) ((n, k₀) :: r) =
      (if (k₀ == NameKind.free && sc.kind == .function && sc.names.lookup n == some .cell) = true then (n, NameKind.cell) else (n, k₀)) :: (r.map fun (n, k) => if (k == NameKind.free && sc.kind == .function && sc.names.lookup n == some .cell) then (n, NameKind.cell) else (n, k)) := fun _ => rfl
    rw [go (n, k₀)]
    cases hx : x == n with
    | true =>
      simp only [List.lookup_cons, hx] at h
      cases h
      by_cases hc : (NameKind.free == NameKind.free && sc.kind == .function && sc.names.lookup n == some .cell) = true
      · rw [if_pos hc]; left; simp only [List.lookup_cons, hx]
      · rw [if_neg hc]; right; simp only [List.lookup_cons, hx]
    | false =>
      simp only [List.lookup_cons, hx] at h
      by_cases hc : (k₀ == NameKind.free && sc.kind == .function && sc.names.lookup n == some .cell) = true
      · rw [if_pos hc]; simp only [List.lookup_cons, hx]; exact ih h
      · rw [if_neg hc]; simp only [List.lookup_cons, hx]; exact ih h

theorem NmOk.blk {nm : Nms} (scope : Scope) {s : Shared} {H : Hp} {C : Addr} {cl : List (Str × Addr)} {fp : List Addr} : NmOk (X.blk s H scope (compEnvC scope cl C X.env) fp) scope.names := by
  have hs : (X.blk s H scope (compEnvC scope cl C X.env) fp).env.scope = relS scope X.env.scope := rfl
  refine ⟨fun x h => ?_, fun x h => ?_, fun x h => ?_, fun x h => ?_⟩
  · unfold Vis
    rw [hs]
    unfold visB at h
    split at h
    · rename_i e; exact .inl (lookup_relS_keep (by decide) e)
    · rename_i e; exact .inr (.inl (lookup_relS_keep (by decide) e))
    · rename_i e; exact .inr (lookup_relS_free e)
    · cases h
  · unfold glB at h
    split at h
    · rename_i e; exact lookup_relS_keep (by decide) e
    · cases h
  · unfold locB at h
    split at h
    · rename_i e
      have := lookup_relS_keep (sc := X.env.scope) (by decide) e
      exact ⟨.inl this, .inr this⟩
    · rename_i e
      have := lookup_relS_keep (sc := X.env.scope) (by decide) e
      exact ⟨.inr this, .inl (by show (scope.names.lookup x == some .cell) = true; rw [e]; rfl)⟩
    · cases h
  · rcases h with h | h
    · exact .inl (lookup_relS_keep (by decide) h)
    · exact lookup_relS_free h
theorem CxOk.blk (c : CxOk X lv) (scope : Scope) {s : Shared} {H : Hp} {env : PySem.Env} {fp : List Addr} : CxOk (X.blk s H scope env fp) lv := ⟨c.calm, c.room, c.guards, c.nd, c.blt, c.sys⟩
theorem blkOk_of {N : List Str} {nm : Nms} (hN : X.N = N) (n : NmOk X nm) {scope : Scope} {own : List (Str × Nat)} (h : blkC N { scope with names := nm } scope own = true) : BlkOk X.N X.env.scope scope own := by
  have b := blkOk_by h
  exact ⟨b.kind, b.uniq, by rw [hN]; exact b.ix, fun y hy e => n.cf y.1 (b.free y hy e), by rw [hN]; exact b.own⟩
/-- what the block's parts are -/
structure LcOk (X : Cx) (N : List Str) (nm : Nms) (tg : Tg) (t : Expr) (scope : Scope) (own : List (Str × Nat)) : Prop where
  blk : BlkOk X.N X.env.scope scope own
  tgs : ∀ i ∈ tgSlots tg, i ∈ own.map (·.2)
theorem lcOk_of {N : List Str} {nm : Nms} (c : CxOk X lv) (hN : X.N = N) (n : NmOk X nm) {tg : Tg} {t : Expr} {scope : Scope} {own : List (Str × Nat)} (h : blkC N { scope with names := nm } scope own = true) (ht : tgOk N scope.names tg t = true) : LcOk X N nm tg t scope own := by
  have b := blkOk_of hN n h
  refine ⟨b, fun i hi => ?_⟩
  obtain ⟨x, hx, hl⟩ := tgOk_slots ht i hi
  have key : ∀ k, scope.names.lookup x = some k → k = .local ∨ k = .cell → i ∈ own.map (·.2) := fun k e hk => by
    rw [← hN] at hx
    rcases b.own _ (PySem.mem_of_lookup e) hk with h | h
    · obtain ⟨p, hp, hpy⟩ := List.mem_map.mp h
      have e3 := b.ix p hp
      have : p.1 = x := hpy
      rw [this] at e3
      exact List.mem_map.mpr ⟨p, hp, nodup_ix c.nd e3 hx⟩
    · exact absurd (List.mem_of_getElem? hx) h
  unfold locB at hl
  split at hl
  · rename_i e; exact key _ e (.inl rfl)
  · rename_i e; exact key _ e (.inr rfl)
  · cases hl
/-- no set display walked -/
theorem noSet_of {e : Expr} {env : PySem.Env} (h : notSet e = true) (x : Value) : foldedSetIterable e env x = pure x := by
  cases e <;> first | rfl | cases h
end
end PyEv

set_option maxRecDepth 100000
set_option maxHeartbeats 2000000
/-! PyS1: a comprehension as a value; statements: the frame. -/
namespace PyEv
open PySem L2
variable [TabL]

section
variable {X : Cx} {xi : XI} {W : WX} {lv : Nat}
abbrev WNo : WX := fun _ _ _ _ => False
/-- a comprehension's sound parts -/
structure LcS (X : Cx) (xi : XI) (W : WX) (tg : Tg) (t iter e : Expr) (ifs : List Expr) (scope : Scope) (own : List (Str × Nat)) (it : Env → Res (List D)) (ct : Env → Res Bool) (ce : Env → Res D) : Prop where
  ok : BlkOk X.N X.env.scope scope own
  hv : ∀ i ∈ tgSlots tg, i ∈ own.map (·.2)
  hi : SndIt X xi W t iter it
  hg : ∀ (s : Shared) (H : Hp) (C : Addr) (cl : List (Str × Addr)) (fp : List Addr), PG (X.blk s H scope (compEnvC scope cl C X.env) fp) t (gTg X.K tg)
  tt : ∃ tt : TT, (∀ (s : Shared) (H : Hp) (C : Addr) (cl : List (Str × Addr)) (fp : List Addr), PTs (X.blk s H scope (compEnvC scope cl C X.env) fp) ifs tt) ∧ ∀ σ H Q, tG X.K X.w xi WNo RB ct σ H Q → tt σ H Q
  he : ∀ (s : Shared) (H : Hp) (C : Addr) (cl : List (Str × Addr)) (fp : List Addr), PE (X.blk s H scope (compEnvC scope cl C X.env) fp) e (tG X.K X.w xi WNo (RD X.K X.w) ce)
  ns : notSet iter = true
def lcR (keep : List Nat) (tg : Tg) (own : List (Str × Nat)) (it : Env → Res (List D)) (ct : Env → Res Bool) (ce : Env → Res D) : Env → Res Ar :=
  fun env => (it env).bind fun xs env => (lcL keep tg own ct ce xs [] env).bind fun ys env => .ok (.val (.lst ys)) (wipeE env own)
theorem snd_lc (c : CxOk X lv) {keep : List Nat} {tg : Tg} {t iter e : Expr} {ifs : List Expr} {scope : Scope} {own : List (Str × Nat)} {it : Env → Res (List D)} {ct : Env → Res Bool} {ce : Env → Res D} {pos : Pos} (h : LcS X xi W tg t iter e ifs scope own it ct ce) :
    Snd X xi W (.ListComp e [⟨t, iter, ifs, 0⟩] scope pos) (lcR keep tg own it ct ce) := by
  obtain ⟨tt, h1, h2⟩ := h.tt
  exact Snd.of_pe rfl (impE (pe_lc c.calm c.nd h.hi h.ok h.hg h1 h.he (noSet_of h.ns)) fun σ H Q q => lc_run (W0 := WNo) h.hv h2 q)

/-! ### statements -/
structure StOk (X : Cx) (nm : Nms) : Prop where
  kind : X.env.scope.kind = .function
  pass : PassesOwn (model X.prog X.w) X.A X.env X.xe
  lc : ∀ x, nm.lookup x = some .local → X.env.scope.names.lookup x = some .local
  st : X.stack = X.env :: X.outer
  fr : X.env.frame = some X.env.locals
  ex : X.ex = []
def Kept (keep : List Nat) (σ σ' : St) : Prop := ∀ i ∈ keep, σ'[i]? = σ[i]?
theorem Kept.refl {keep : List Nat} (σ : St) : Kept keep σ σ := fun _ _ => rfl
theorem Kept.trans {keep : List Nat} {σ σ1 σ2 : St} (a : Kept keep σ σ1) (b : Kept keep σ1 σ2) : Kept keep σ σ2 := fun i h => (b i h).trans (a i h)

section
variable (K : PySem.W.Frag) (w : World) (xi : XI) (W : WX) (keep : List Nat)
def FinS (σ : St) (Hf H : Hp) (L : List WV) (fl : Fl) (Z : Ends) : Prop := match fl with
  | .nx env => ∀ σ' Hg H' L', Sl env σ' L' → Step Hf H L Hg H' L' → Fam K w Hg H' L' → Kept keep σ σ' → Z.nx σ' H'
  | .bk env => ∀ σ' Hg H' L', Sl env σ' L' → Step Hf H L Hg H' L' → Fam K w Hg H' L' → Kept keep σ σ' → Z.bk σ' H'
  | .ct env => ∀ σ' Hg H' L', Sl env σ' L' → Step Hf H L Hg H' L' → Fam K w Hg H' L' → Kept keep σ σ' → Z.ct σ' H'
  | .rt x env => ∀ σ' v Hg H' L', Sl env σ' L' → Step Hf H L Hg H' ((x, v) :: L') → Fam K w Hg H' ((x, v) :: L') → Kept keep σ σ' → Z.rt v H'
  | .ex x env => ∀ σ' Hg H' L' cls dd, Sl env σ' L' → Step Hf H L Hg H' L' → Fam K w Hg H' L' → Kept keep σ σ' → xi cls dd x Hg H' → W cls dd σ' H'
  | .bad => False
def tSG (r : Env → Fl) : TS := fun Z σ H => ∃ Hf env L, St0 K w env σ Hf H L ∧ FinS K w xi W keep σ Hf H L (r env) Z
end
section
variable {K : PySem.W.Frag} {w : World} {keep : List Nat}
theorem FinS.rebase {σ σ1 : St} {Hf H Hf1 H1 : Hp} {L L1 : List WV} {fl : Fl} {Z : Ends} (fin : FinS K w xi W keep σ Hf H L fl Z) (st : Step Hf H L Hf1 H1 L1) (k : Kept keep σ σ1) : FinS K w xi W keep σ1 Hf1 H1 L1 fl Z := by
  cases fl with
  | nx env => exact fun σ' Hg H' L' a b c d => fin σ' Hg H' L' a (st.tr b) c (k.trans d)
  | bk env => exact fun σ' Hg H' L' a b c d => fin σ' Hg H' L' a (st.tr b) c (k.trans d)
  | ct env => exact fun σ' Hg H' L' a b c d => fin σ' Hg H' L' a (st.tr b) c (k.trans d)
  | rt x env => exact fun σ' v Hg H' L' a b c d => fin σ' v Hg H' L' a (st.tr b) c (k.trans d)
  | ex x env => exact fun σ' Hg H' L' cls dd a b c d => fin σ' Hg H' L' cls dd a (st.tr b) c (k.trans d)
  | bad => exact fin
/-- from a state on -/
theorem FinS.go {σ σ1 : St} {Hf H Hf1 H1 : Hp} {L L1 : List WV} {env1 : Env} {r : Env → Fl} {Z : Ends} (fin : FinS K w xi W keep σ Hf H L (r env1) Z) (sl : Sl env1 σ1 L1) (st : Step Hf H L Hf1 H1 L1) (fam : Fam K w Hf1 H1 L1) (k : Kept keep σ σ1) : tSG K w xi W keep r Z σ1 H1 :=
  ⟨Hf1, env1, L1, ⟨sl, fam, st.sub⟩, fin.rebase st k⟩
/-- an expression ahead -/
theorem bindS {α β : Type} {R1 : RR α β} {r : Env → Res α} {f : α → Env → Fl} {σ : St} {H : Hp} {Z : Ends} {Q' : β → Hp → Prop} (q : tSG K w xi W keep (fun env => (r env).fl f) Z σ H)
    (next : ∀ Hf L, ∀ a env2 b T2 Hf2 H2 L2, R1 σ Hf2 a b T2 → Sl env2 σ L2 → Step Hf H L Hf2 H2 (T2 ++ L2) → Fam K w Hf2 H2 (T2 ++ L2) → FinS K w xi W keep σ Hf H L (f a env2) Z → Q' b H2) :
    tG K w xi W R1 r σ H Q' := by
  obtain ⟨Hf, env, L, s0, fin⟩ := q
  have fin : FinS K w xi W keep σ Hf H L ((r env).fl f) Z := fin
  refine ⟨Hf, env, L, s0, ?_⟩
  cases e : r env with
  | ok a env2 =>
    intro b T2 Hf2 H2 L2 hR hs hst hf
    rw [e] at fin
    exact next Hf L a env2 b T2 Hf2 H2 L2 hR hs hst hf fin
  | exc x env2 =>
    intro Hf2 H2 L2 cls dd hs hst hf hx
    rw [e] at fin
    exact fin σ Hf2 H2 L2 cls dd hs hst hf (Kept.refl _) hx
  | bad =>
    rw [e] at fin
    exact fin
end
/-- sound statements -/
abbrev SndS (X : Cx) (xi : XI) (W : WX) (keep : List Nat) (st : Stmt) (r : Env → Fl) : Prop := PS X st (tSG X.K X.w xi W keep r)
abbrev SndSs (X : Cx) (xi : XI) (W : WX) (keep : List Nat) (sts : List Stmt) (r : Env → Fl) : Prop := PSs X sts (tSG X.K X.w xi W keep r)
theorem impS {st : Stmt} {t t' : TS} (h : PS X st t) (f : ∀ Z σ H, t' Z σ H → t Z σ H) : PS X st t' := ⟨fun pins s σ H D I q => h.run pins s σ H D I (f D σ H q)⟩
theorem impSs {sts : List Stmt} {t t' : TS} (h : PSs X sts t) (f : ∀ Z σ H, t' Z σ H → t Z σ H) : PSs X sts t' := ⟨fun pins s σ H D I q => h.run pins s σ H D I (f D σ H q)⟩

section
variable {keep : List Nat}
theorem ss_nil : SndSs X xi W keep [] (fun env => .nx env) := impSs pss_nil fun Z σ H q => by
  obtain ⟨Hf, env, L, s0, fin⟩ := q
  exact fin σ Hf H L s0.sl (Step.refl s0.sub) s0.fam (Kept.refl _)
theorem ss_cons {s : Stmt} {ss : List Stmt} {r1 r2 : Env → Fl} (h1 : SndS X xi W keep s r1) (h2 : SndSs X xi W keep ss r2) : SndSs X xi W keep (s :: ss) (fun env => (r1 env).then r2) := impSs (pss_cons h1 h2) fun Z σ H q => by
  obtain ⟨Hf, env, L, s0, fin⟩ := q
  have fin : FinS X.K X.w xi W keep σ Hf H L ((r1 env).then r2) Z := fin
  refine ⟨Hf, env, L, s0, ?_⟩
  cases e : r1 env with
  | nx env2 =>
    rw [e] at fin
    exact fun σ' Hg H' L' a b c d => FinS.go (r := r2) (env1 := env2) fin a b c d
  | bk env2 => rw [e] at fin; exact fin
  | ct env2 => rw [e] at fin; exact fin
  | rt x env2 => rw [e] at fin; exact fin
  | ex x env2 => rw [e] at fin; exact fin
  | bad => rw [e] at fin; exact fin
theorem s_pass {pos : Pos} : SndS X xi W keep (.Pass pos) (fun env => .nx env) := impS ps_pass fun Z σ H q => by
  obtain ⟨Hf, env, L, s0, fin⟩ := q
  exact fin σ Hf H L s0.sl (Step.refl s0.sub) s0.fam (Kept.refl _)
theorem s_doc {x : Str} {j : Nat} {pos pos' : Pos} : SndS X xi W keep (.Expr (.Constant (.str x) j pos) pos') (fun env => .nx env) := impS ps_doc fun Z σ H q => by
  obtain ⟨Hf, env, L, s0, fin⟩ := q
  exact fin σ Hf H L s0.sl (Step.refl s0.sub) s0.fam (Kept.refl _)
theorem sw_no {e : Expr} {t : Option Expr} {l : Nat} {env : PySem.Env} (h : isComp e = false) : swapsWith e t l env = pure false := by
  cases e <;> first | rfl | cases h
theorem s_expr {e : Expr} {r : Env → Res Ar} {pos : Pos} (he : Snd X xi W e r) (hc : isComp e = false) : SndS X xi W keep (.Expr e pos) (fun env => (r env).fl fun _ env => .nx env) := impS (ps_expr he.pe (sw_no hc)) fun Z σ H q => by
  refine bindS (R1 := RAr) q fun Hf L a env2 b T2 Hf2 H2 L2 r1 sl st fam fin => ?_
  exact fin σ Hf2 H2 L2 sl (st.less fun b q => Owned.append.mpr (.inr q)) (fam.sub (List.sublist_append_right _ _)) (Kept.refl _)
theorem take_ok {K : PySem.W.Frag} {w : World} {a : Ar} {v : V} {T L L0 : List WV} {σ : St} {Hx Hf H Hf1 H1 : Hp} {env env2 : Env} {x : PyEv.W} (r : RAr σ Hx a v T) (sl : Sl env σ L) (st : Step Hf H L0 Hf1 H1 (T ++ L)) (fam : Fam K w Hf1 H1 (T ++ L)) (e : take a env = .ok x env2) :
    ∃ L2, Sl env2 σ L2 ∧ Step Hf H L0 Hf1 H1 ((x, v) :: L2) ∧ Fam K w Hf1 H1 ((x, v) :: L2) := by
  cases r with
  | @vr _ _ i _ hi =>
    rw [List.nil_append] at st fam
    have e' : (match slot env i with | some (.d x) => .ok (.d x) env | some w => .ok w (env.set i none) | none => .bad : Res PyEv.W) = .ok x env2 := e
    cases es : slot env i with
    | none => rw [es] at e'; cases e'
    | some y =>
      rw [es] at e'
      obtain ⟨u, N, h1, h2, p⟩ := sl.out es
      rw [hi] at h1; cases h1
      have own : y = x → env.set i none = env2 → ∃ L2, Sl env2 σ L2 ∧ Step Hf H L0 Hf1 H1 ((x, v) :: L2) ∧ Fam K w Hf1 H1 ((x, v) :: L2) := fun e1 e2 => by
        subst e1 e2
        exact ⟨N, h2, st.less fun b q => (Owned.perm p).mpr q, fam.perm p⟩
      cases y with
      | d y =>
        have e2 : (Res.ok (PyEv.W.d y) env : Res PyEv.W) = .ok x env2 := e'
        cases e2
        have dn : Den K w Hf1 y v := by
          have := fam.rep (.d y, v) (p.mem_iff.mpr List.mem_cons_self)
          cases this with
          | d h => exact h
        exact ⟨L, sl, st.less fun b q => by
          rcases Owned.cons.mp q with q | q
          · cases q
          · exact q, fam.cons_d dn⟩
      | lst ys => injection (show (Res.ok (PyEv.W.lst ys) (env.set i none) : Res PyEv.W) = .ok x env2 from e') with e1 e2; exact own e1 e2
      | dct ks ys => injection (show (Res.ok (PyEv.W.dct ks ys) (env.set i none) : Res PyEv.W) = .ok x env2 from e') with e1 e2; exact own e1 e2
  | @val _ _ y _ =>
    have e' : (Res.ok y env : Res PyEv.W) = .ok x env2 := e
    cases e'
    exact ⟨L, sl, st, fam⟩
theorem take_noexc {a : Ar} {env e2 : Env} {x : D} (e : take a env = .exc x e2) : False := by
  unfold take at e
  split at e
  · split at e <;> cases e
  · cases e
theorem ret_run {r : Env → Res Ar} {Z : Ends} {σ : St} {H : Hp} (q : tSG X.K X.w xi W keep (fun env => (r env).fl fun a env => (take a env).fl fun x env => .rt x env) Z σ H) : tG X.K X.w xi W RAr r σ H Z.rt := by
  refine bindS (R1 := RAr) q fun Hf L a env2 v T2 Hf2 H2 L2 r1 sl st fam fin => ?_
  cases e : take a env2 with
  | bad => rw [e] at fin; exact fin.elim
  | exc x e2 => exact (take_noexc e).elim
  | ok x env3 =>
    rw [e] at fin
    obtain ⟨L3, a1, a2, a3⟩ := take_ok r1 sl st fam e
    exact fin σ v Hf2 H2 L3 a1 a2 a3 (Kept.refl _)
theorem s_ret {e : Expr} {r : Env → Res Ar} {pos : Pos} (he : PE X e (tG X.K X.w xi W RAr r)) : SndS X xi W keep (.Return (some e) pos) (fun env => (r env).fl fun a env => (take a env).fl fun x env => .rt x env) := impS (ps_ret he) fun Z σ H q => ret_run q
theorem s_retN {pos : Pos} : SndS X xi W keep (.Return none pos) (fun env => .rt (.d .non) env) := impS ps_retN fun Z σ H q => by
  obtain ⟨Hf, env, L, s0, fin⟩ := q
  exact fin σ .non Hf H L s0.sl ((Step.refl s0.sub).less fun b q => by
    rcases Owned.cons.mp q with q | q
    · cases q
    · exact q) (s0.fam.cons_d .non) (Kept.refl _)
theorem s_if {c : Expr} {a b : List Stmt} {rc : Env → Res Ar} {ra rb : Env → Fl} {pos : Pos} (hc : Snd X xi W c rc) (ha : SndSs X xi W keep a ra) (hb : SndSs X xi W keep b rb) :
    SndS X xi W keep (.If c a b pos) (fun env => (useB (rc env)).fl fun k env => if k = true then ra env else rb env) := impS (ps_if hc.pt ha hb) fun Z σ H q => by
  refine bindS (R1 := RB) q fun Hf L k env2 k' T2 Hf2 H2 L2 r1 sl st fam fin => ?_
  obtain ⟨rfl, rfl⟩ := r1
  cases k with
  | true => exact FinS.go (r := ra) fin sl st fam (Kept.refl _)
  | false => exact FinS.go (r := rb) fin sl st fam (Kept.refl _)

/-- a slot stored in a run -/
theorem store_fin {σ : St} {Hf H Hf1 H1 : Hp} {L L1 : List WV} {env : Env} {x : PyEv.W} {v : V} {i : Nat} {Z : Ends} {K : PySem.W.Frag} {w : World} (fin : FinS K w xi W keep σ Hf H L (nxO (store keep i x env)) Z) (sl : Sl env σ L1) (st : Step Hf H L Hf1 H1 ((x, v) :: L1)) (fam : Fam K w Hf1 H1 ((x, v) :: L1)) :
    Z.nx (σ.set i (some v)) H1 := by
  cases e : store keep i x env with
  | none => rw [e] at fin; exact fin.elim
  | some env1 =>
    rw [e] at fin
    obtain ⟨hk, hi, rfl⟩ := store_len e
    obtain ⟨L', a, b, c⟩ := sl.put2 (T := []) hi st fam
    exact fin _ Hf1 H1 L' a b c fun j hj => List.getElem?_set_ne (ne_keep hk hj)
def setR (keep : List Nat) (i : Nat) (r : Env → Res Ar) : Env → Fl := fun env => (r env).fl fun a env => (match a with
  | .vr j => (item (.vr j) env).fl fun d env => nxO (store keep i (.d d) env)
  | .val w => nxO (store keep i w env))
theorem set_run {i : Nat} {r : Env → Res Ar} {Z : Ends} {σ : St} {H : Hp} (q : tSG X.K X.w xi W keep (setR keep i r) Z σ H) : tG X.K X.w xi W RAr r σ H (fun x H1 => gName i x σ H1 Z.nx) := by
  refine bindS (R1 := RAr) q fun Hf L a env2 v T2 Hf2 H2 L2 r1 sl st fam fin => ?_
  cases r1 with
  | @vr _ _ j _ hj =>
    have fin : FinS X.K X.w xi W keep σ Hf H L ((item (.vr j) env2).fl fun d env => nxO (store keep i (.d d) env)) Z := fin
    cases e : item (.vr j) env2 with
    | bad => rw [e] at fin; exact fin.elim
    | exc x e2 => exact (item_noexc e).elim
    | ok d env3 =>
      rw [e] at fin
      obtain ⟨Hf3, L3, dn, sl3, st3, fam3⟩ := item_ok (M := []) (Hx := Hf) (.vr hj) sl st fam e
      exact store_fin fin sl3 (st3.less fun b q => by
        rcases Owned.cons.mp q with q | q
        · cases q
        · exact q) (fam3.cons_d dn)
  | @val _ _ x _ => exact store_fin fin sl st fam
theorem s_set {N : List Str} {nm : Nms} (c : CxOk X lv) (hN : X.N = N) (n : NmOk X nm) {i : Nat} {x : Str} {e : Expr} {r : Env → Res Ar} {pos' pos : Pos} (h1 : N[i]? = some x) (h2 : locB nm x = true) (he : Snd X xi W e r) (hc : isComp e = false) :
    SndS X xi W keep (.Assign [.Name x pos'] e pos) (setR keep i r) := by
  obtain ⟨a, b⟩ := n.loc x h2
  exact impS (ps_set c.nd (by rw [hN]; exact h1) a he.pe (sw_no hc) b) fun Z σ H q => set_run q
/-- .. a comprehension on the same line -/
theorem s_setLc {N : List Str} {nm : Nms} (c : CxOk X lv) (so : StOk X nm) (hN : X.N = N) {i : Nat} {x : Str} {py pos spos : Pos} {tg : Tg} {t iter e : Expr} {ifs : List Expr} {scope : Scope} {own : List (Str × Nat)} {it : Env → Res (List D)} {ct : Env → Res Bool} {ce : Env → Res D}
    (h1 : N[i]? = some x) (h2 : nm.lookup x = some .local) (hl : (py.line == pos.line) = true) (ha : (scope.names.any fun (n, k) => n == x && (k == .local || k == .cell)) = false) (h : LcS X xi W tg t iter e ifs scope own it ct ce) :
    SndS X xi W keep (.Assign [.Name x py] (.ListComp e [⟨t, iter, ifs, 0⟩] scope pos) spos) (setR keep i (lcR keep tg own it ct ce)) := by
  obtain ⟨tt, h3, h4⟩ := h.tt
  exact impS (ps_setLc c.calm c.nd (by rw [hN]; exact h1) (so.lc x h2) (sw_true so.kind (so.lc x h2) hl ha) h.hi h.ok h.hg h3 h.he (noSet_of h.ns)) fun Z σ H q => lc_run (W0 := WNo) h.hv h4 (set_run q)
theorem sw_false {elt : Expr} {gs : List Comprehension} {scope : Scope} {pos py : Pos} {y : Str} {l : Nat} {env : PySem.Env} (h : ((py.line == pos.line) && !(scope.names.any fun (n, k) => n == y && (k == .local || k == .cell))) = false) : swapsWith (.ListComp elt gs scope pos) (some (.Name y py)) l env = pure false := by
  unfold swapsWith
  simp only [Expr.pos]
  show pure _ = pure _
  congr 1
  rw [Bool.and_assoc, h, Bool.and_false]
theorem sw_cell {elt : Expr} {gs : List Comprehension} {scope : Scope} {pos py : Pos} {y : Str} {l : Nat} {env : PySem.Env} (h : env.scope.names.lookup y = some .cell ∨ env.scope.names.lookup y = some .free) : swapsWith (.ListComp elt gs scope pos) (some (.Name y py)) l env = pure false := by
  have hk : (env.kindOf y == some NameKind.local) = false := by
    have e : env.kindOf y = env.scope.names.lookup y := rfl
    rcases h with h | h <;> rw [e, h] <;> rfl
  unfold swapsWith
  simp only [Expr.pos, hk]
  show pure _ = pure _
  congr 1
  simp
theorem s_setLc0 {N : List Str} {nm : Nms} (c : CxOk X lv) (hN : X.N = N) (n : NmOk X nm) {i : Nat} {x : Str} {py pos spos : Pos} {e : Expr} {gs : List Comprehension} {scope : Scope} {r : Env → Res Ar}
    (h1 : N[i]? = some x) (h2 : locB nm x = true) (hl : ((py.line == pos.line) && !(scope.names.any fun (n, k) => n == x && (k == .local || k == .cell))) = false ∨ nm.lookup x = some .cell) (h : Snd X xi W (.ListComp e gs scope pos) r) :
    SndS X xi W keep (.Assign [.Name x py] (.ListComp e gs scope pos) spos) (setR keep i r) := by
  obtain ⟨a, b⟩ := n.loc x h2
  exact impS (ps_set c.nd (by rw [hN]; exact h1) a h.pe (hl.elim sw_false fun h => sw_cell (n.cf x (.inl h))) b) fun Z σ H q => set_run q
end
end
end PyEv

set_option maxRecDepth 100000
set_option maxHeartbeats 2000000
/-! PyS2: for, while, pairs, items stored. -/
namespace PyEv
open PySem L2
variable [TabL]

section
variable {X : Cx} {xi : XI} {W : WX} {lv : Nat} {keep : List Nat}

theorem fl_rt {γ : Type} {f : Fl} : True := trivial
/-- one turn's end -/
theorem turn_fin {K : PySem.W.Frag} {w : World} {σ σ1 : St} {Hf H Hf1 H1 : Hp} {L L1 : List WV} {fl : Fl} {g : Env → Fl} {Z : Ends} {Nx : St → Hp → Prop} (st : Step Hf H L Hf1 H1 L1) (k : Kept keep σ σ1)
    (fin : FinS K w xi W keep σ Hf H L (match fl with | .nx e => g e | .ct e => g e | .bk e => .nx e | f => f) Z)
    (hN : ∀ env σ' Hg H' L', FinS K w xi W keep σ Hf H L (g env) Z → Sl env σ' L' → Step Hf1 H1 L1 Hg H' L' → Step Hf H L Hg H' L' → Fam K w Hg H' L' → Kept keep σ σ' → Nx σ' H') :
    FinS K w xi W keep σ1 Hf1 H1 L1 fl { Z with nx := Nx, ct := Nx, bk := Z.nx } := by
  cases fl with
  | nx env => exact fun σ' Hg H' L' a b c d => hN env σ' Hg H' L' fin a b (st.tr b) c (k.trans d)
  | ct env => exact fun σ' Hg H' L' a b c d => hN env σ' Hg H' L' fin a b (st.tr b) c (k.trans d)
  | bk env => exact fun σ' Hg H' L' a b c d => fin σ' Hg H' L' a (st.tr b) c (k.trans d)
  | rt x env => exact fun σ' v Hg H' L' a b c d => fin σ' v Hg H' L' a (st.tr b) c (k.trans d)
  | ex x env => exact fun σ' Hg H' L' cls dd a b c d => fin σ' Hg H' L' cls dd a (st.tr b) c (k.trans d)
  | bad => exact fin

theorem for_run {K : PySem.W.Frag} {w : World} {tg : Tg} {it : Env → Res (List D)} {body : Env → Fl} {Z : Ends} {σ : St} {H : Hp}
    (q : tSG K w xi W keep (fun env => (it env).fl fun xs env => forL keep tg body xs env) Z σ H) :
    tFor (tG K w xi W (RWalk K w) it) (gTg K tg) (tSG K w xi W keep body) Z σ H := by
  refine bindS (R1 := RWalk K w) q fun Hf L xs env1 J T1 Hf1 H1 L1 r1 sl1 st1 fam1 fin => ?_
  obtain ⟨ws, rfl⟩ := r1
  let S : Nat → St → Hp → Prop := fun i σ' H' => ∃ env' Hf' L', Sl env' σ' L' ∧ Step Hf H L Hf' H' L' ∧ Fam K w Hf' H' L' ∧ Same Hf1 Hf' ∧ Kept keep σ σ' ∧ FinS K w xi W keep σ Hf H L (forL keep tg body (xs.drop i) env') Z
  refine ⟨fun i m σ' H' => m = xs.length - i ∧ i ≤ xs.length ∧ S i σ' H', ⟨xs.length, by simp, Nat.zero_le _, env1, Hf1, L1, sl1, st1, fam1, Same.refl _, Kept.refl _, fin⟩, ?_⟩
  rintro i m σ' H' ⟨rfl, hi, env', Hf', L', sl', st', fam', sm, kp, fin'⟩
  obtain ⟨w1, w2, w3⟩ := ws Hf' H' sm st'.sub i
  by_cases hlt : i < xs.length
  · have ex : xs.drop i = xs[i] :: xs.drop (i + 1) := List.drop_eq_getElem_cons hlt
    rw [ex] at fin'
    cases ea : assignTg keep tg xs[i] env' with
    | none =>
      have : forL keep tg body (xs[i] :: xs.drop (i + 1)) env' = .bad := by simp only [forL, ea]
      rw [this] at fin'; exact fin'.elim
    | some env2 =>
      have : forL keep tg body (xs[i] :: xs.drop (i + 1)) env' = (match body env2 with | .nx e => forL keep tg body (xs.drop (i + 1)) e | .ct e => forL keep tg body (xs.drop (i + 1)) e | .bk e => .nx e | f => f) := by simp only [forL, ea] <;> rfl
      rw [this] at fin'
      refine .inr ⟨w2 hlt, S (i + 1), fun σ2 H2 s => ⟨xs.length - (i + 1), by omega, rfl, hlt, s⟩, fun x H2 hy => ?_⟩
      obtain ⟨Hg, dn, stp, fm⟩ := w3 x H2 xs[i] L' hy (List.getElem?_eq_getElem hlt) fam'
      refine tg_fin (T := []) ea sl' (st'.tr stp) fm dn fun σ2 M2 sl2 st2 fam2 hlen hwp hk => ?_
      have kp2 : Kept keep σ σ2 := kp.trans hk
      exact ⟨Hg, env2, M2, ⟨sl2, fam2, st2.sub⟩, turn_fin st2 kp2 fin' fun env σ3 Hg3 H3 L3 f a b b' c d => ⟨env, Hg3, L3, a, b', c, (sm.trans stp.subf).trans b.subf, d, f⟩⟩
  · have e : i = xs.length := by omega
    subst e
    rw [List.drop_length] at fin'
    exact .inl ⟨w1 (Nat.le_refl _), fin' σ' Hf' H' L' sl' st' fam' kp⟩
theorem s_for {N : List Str} {nm : Nms} (c : CxOk X lv) (so : StOk X nm) (hN : X.N = N) (n : NmOk X nm) {tg : Tg} {t iter : Expr} {body : List Stmt} {it : Env → Res (List D)} {rb : Env → Fl} {pos : Pos} (ht : tgOk N nm tg t = true) (hi : SndIt X xi W t iter it) (hb : SndSs X xi W keep body rb) (hs : notSet iter = true) :
    SndS X xi W keep (.For t iter body [] pos) (fun env => (it env).fl fun xs env => forL keep tg rb xs env) :=
  impS (ps_for so.pass c.calm hi (pg_tg c hN n ht) hb (noSet_of hs)) fun Z σ H q => for_run q

theorem whl_run {K : PySem.W.Frag} {w : World} {cnd : Env → Res Bool} {body : Env → Fl} {Z : Ends} {σ : St} {H : Hp} {n : Nat}
    (q : tSG K w xi W keep (fun env => whlL cnd body n env) Z σ H) : tWhile (tG K w xi W RB cnd) (tSG K w xi W keep body) Z σ H := by
  obtain ⟨Hf, env, L, s0, fin⟩ := q
  let S : Nat → St → Hp → Prop := fun m σ' H' => ∃ env' Hf' L', Sl env' σ' L' ∧ Step Hf H L Hf' H' L' ∧ Fam K w Hf' H' L' ∧ Kept keep σ σ' ∧ FinS K w xi W keep σ Hf H L (whlL cnd body m env') Z
  refine ⟨S, ⟨n, env, Hf, L, s0.sl, Step.refl s0.sub, s0.fam, Kept.refl _, fin⟩, ?_⟩
  rintro m σ' H' ⟨env', Hf', L', sl', st', fam', kp, fin'⟩
  cases m with
  | zero => exact fin'.elim
  | succ m =>
    have fin' : FinS K w xi W keep σ Hf H L ((cnd env').fl fun b env1 => if b = true then (match body env1 with | .nx e => whlL cnd body m e | .ct e => whlL cnd body m e | .bk e => .nx e | f => f) else .nx env1) Z := fin'
    have q' : tSG K w xi W keep (fun env => (cnd env).fl fun b env1 => if b = true then (match body env1 with | .nx e => whlL cnd body m e | .ct e => whlL cnd body m e | .bk e => .nx e | f => f) else .nx env1) Z σ' H' :=
      FinS.go (r := fun env => (cnd env).fl fun b env1 => if b = true then (match body env1 with | .nx e => whlL cnd body m e | .ct e => whlL cnd body m e | .bk e => .nx e | f => f) else .nx env1) fin' sl' st' fam' kp
    obtain ⟨Hf0, env0, L0, s00, fin0⟩ := q'
    refine ⟨Hf', env', L', ⟨sl', fam', st'.sub⟩, ?_⟩
    cases e : cnd env' with
    | bad => rw [e] at fin'; exact fin'
    | exc x env2 =>
      rw [e] at fin'
      exact fun Hg H2 L2 cls dd a b c d => fin' σ' Hg H2 L2 cls dd a (st'.tr b) c kp d
    | ok b env2 =>
      rw [e] at fin'
      intro b' T Hg H2 L2 hb a st2 c
      obtain ⟨rfl, rfl⟩ := hb
      have st2 : Step Hf' H' L' Hg H2 L2 := st2
      have c : Fam K w Hg H2 L2 := c
      cases b with
      | false => exact fin' σ' Hg H2 L2 a (st'.tr st2) c kp
      | true =>
        have fin' : FinS K w xi W keep σ Hf H L (match body env2 with | .nx e => whlL cnd body m e | .ct e => whlL cnd body m e | .bk e => .nx e | f => f) Z := fin'
        exact ⟨S m, fun σ3 H3 s => ⟨m, Nat.lt_succ_self _, s⟩, Hg, env2, L2, ⟨a, c, st2.sub⟩, turn_fin (st'.tr st2) kp fin' fun env σ3 Hg3 H3 L3 f a b b' c d => ⟨env, Hg3, L3, a, b', c, d, f⟩⟩
theorem s_whl {nm : Nms} (so : StOk X nm) {c : Expr} {body : List Stmt} {rc : Env → Res Ar} {rb : Env → Fl} {pos : Pos} (hc : Snd X xi W c rc) (hb : SndSs X xi W keep body rb) :
    SndS X xi W keep (.While c body [] pos) (fun env => whlL (fun env => useB (rc env)) rb loopMost env) :=
  impS (ps_while so.pass hc.pt hb) fun Z σ H q => whl_run q

/-! ### a[i] = v -/
def rSetAll : TSet := fun o i v H Q => rSetL o i v H Q ∨ rSetD o i v H Q
theorem set_all (c : CxOk X lv) : PSet X rSetAll := by
  intro pins s σ H o i v ov iv u Q I ro ri rv h
  rcases h with h | h
  · exact set_list pins s σ H o i v ov iv u Q I ro ri rv h
  · exact set_dict (by have := c.room.un; omega) pins s σ H o i v ov iv u Q I ro ri rv h
theorem put_map : ∀ {ks : List Str} {kvs : List (Key × V)} {k : Str} {v : V}, kvs.map (·.1) = ks.map Sum.inr →
    (kvs.map fun kv => if kv.1 = (Sum.inr k : Key) then (kv.1, v) else kv).map (·.1) = ks.map Sum.inr ∧
    (kvs.map fun kv => if kv.1 = (Sum.inr k : Key) then (kv.1, v) else kv).map (·.2) = (ks.zip (kvs.map (·.2))).map (fun p => if p.1 = k then v else p.2) ∧
    (kvs.any fun kv => decide (kv.1 = (Sum.inr k : Key))) = ks.contains k
  | [], [], k, v, _ => ⟨rfl, rfl, rfl⟩
  | [], _ :: _, _, _, e => by simp at e
  | _ :: _, [], _, _, e => by simp at e
  | k' :: ks, (q, u) :: kvs, k, v, e => by
    simp only [List.map_cons, List.cons.injEq] at e
    obtain ⟨e1, e2⟩ := e
    subst e1
    obtain ⟨a, b, c⟩ := put_map (k := k) (v := v) e2
    by_cases hk : k' = k
    · subst hk
      refine ⟨?_, ?_, ?_⟩
      · rw [List.map_cons, if_pos rfl, List.map_cons, a, List.map_cons]
      · rw [List.map_cons, if_pos rfl, List.map_cons, b, List.map_cons, List.zip_cons_cons, List.map_cons, if_pos rfl]
      · rw [List.any_cons, c]; simp
    · have hne : (Sum.inr k' : Key) ≠ Sum.inr k := fun z => hk (Sum.inr.inj z)
      refine ⟨?_, ?_, ?_⟩
      · rw [List.map_cons, if_neg hne, List.map_cons, a, List.map_cons]
      · rw [List.map_cons, if_neg hne, List.map_cons, b, List.map_cons, List.zip_cons_cons, List.map_cons, if_neg hk]
      · have h1 : (k == k') = false := by simpa using fun z => hk z.symm
        rw [List.any_cons, c, List.contains_cons, h1, decide_eq_false hne]
theorem put_den {K : PySem.W.Frag} {w : World} {Hf : Hp} {k : Str} {d : D} {v : V} (dn : Den K w Hf d v) : ∀ {ks : List Str} {ds : List D} {us : List V}, DenL K w Hf ds us → DenL K w Hf ((ks.zip ds).map fun p => if p.1 = k then d else p.2) ((ks.zip us).map fun p => if p.1 = k then v else p.2)
  | [], _, _, _ => .nil
  | _ :: _, _, _, .nil => .nil
  | k' :: ks, _, _, .cons a b => by
    rw [List.zip_cons_cons, List.zip_cons_cons, List.map_cons, List.map_cons]
    refine .cons ?_ (put_den dn b)
    by_cases h : k' = k
    · rw [if_pos h, if_pos h]; exact dn
    · rw [if_neg h, if_neg h]; exact a
/-- what a store into an own object leaves -/
theorem setF_fin {σ : St} {Hf H Hf1 H1 : Hp} {L L1 : List WV} {env1 : Env} {Q : Hp → Prop} {i : Nat} {x x' : PyEv.W} {o iv v : V} {k d : D} {w : World} {X : Cx} (sl : Sl env1 σ L1) (st : Step Hf H L Hf1 H1 L1) (fam : Fam X.K X.w Hf1 H1 L1) (es : slot env1 i = some x) (ho : σ[i]? = some (some o))
    (vk : View X.K X.w Hf1 H1 k iv) (dn : Den X.K X.w Hf1 d v) (e : setF x k d = some x') (q : ∀ H' L', Sl (env1.set i (some x')) σ L' → Step Hf H L Hf1 H' L' → Fam X.K X.w Hf1 H' L' → Q H') : rSetAll o iv v H1 Q := by
  obtain ⟨u, M, h1, h2, p⟩ := sl.out es
  rw [ho] at h1; cases h1
  have f1 := fam.perm p
  have s1 : Step Hf H L Hf1 H1 ((x, o) :: M) := st.less fun b q => (Owned.perm p).mpr q
  have r := f1.rep (x, o) List.mem_cons_self
  have fin : ∀ (a : Addr) (ob : HO), o = .ref a → a ∈ ad x (.ref a) → (∀ b ∈ ad x' (.ref a), b = a) → RepW X.K X.w Hf1 (upd H1 a ob) x' (.ref a) → Q (upd H1 a ob) := fun a ob eo ha hy rr => by
    subst eo
    obtain ⟨s2, f2⟩ := write_own s1.sub f1 ha hy rr
    obtain ⟨L2, s3, p2⟩ := h2.into (x := x') ho
    exact q _ L2 s3 ((s1.tr s2).less fun b q => (Owned.perm p2).mp q) (f2.perm p2.symm)
  cases r with
  | d _ => cases e
  | @lst a ds us hus hn dl =>
    cases k with
    | int j =>
      have e : (L2.ixN ds.length j).map (fun j => PyEv.W.lst (ds.set j d)) = some x' := e
      cases ej : L2.ixN ds.length j with
      | none => rw [ej] at e; cases e
      | some j' =>
        rw [ej] at e
        have e := Option.some.inj e
        subst e
        exact .inl ⟨a, us, j, j', rfl, vk.int, hus, by rw [← dl.length]; exact ej, fin a _ rfl (by simp [ad]) (by simp [ad]) (.lst upd_same hn (dl.set _ dn))⟩
    | _ => cases e
  | @dct a ks ds kvs hk hn ek dl =>
    cases k with
    | str s =>
      have e : (if ks.length < line then (if ks.contains s then some (PyEv.W.dct ks ((ks.zip ds).map fun p => if p.1 = s then d else p.2)) else some (.dct (ks ++ [s]) (ds ++ [d]))) else none) = some x' := e
      by_cases hz : ks.length < line
      case neg => rw [if_neg hz] at e; cases e
      rw [if_pos hz] at e
      have lk : kvs.length = ks.length := by have := congrArg List.length ek; simpa using this
      obtain ⟨a1, a2, a3⟩ := put_map (k := s) (v := v) ek
      by_cases hc : ks.contains s = true
      · rw [if_pos hc] at e
        have e := Option.some.inj e
        subst e
        have ep : putK kvs (Sum.inr s) v = kvs.map fun kv => if kv.1 = (Sum.inr s : Key) then (kv.1, v) else kv := by
          unfold putK; rw [if_pos (by rw [a3]; exact hc)]
        have vs' := vk.str
        subst vs'
        refine .inr ⟨a, _, rfl, DPut.k (k := Sum.inr s) hk (by rw [lk]; exact hz), fin a _ rfl (by simp [ad]) (by simp [ad]) ?_⟩
        rw [ep]
        exact .dct upd_same hn a1 (by rw [a2]; exact put_den dn dl)
      · rw [if_neg hc] at e
        have e := Option.some.inj e
        subst e
        have ep : putK kvs (Sum.inr s) v = kvs ++ [(Sum.inr s, v)] := by
          unfold putK; rw [if_neg (by rw [a3]; exact hc)]
        have vs' := vk.str
        subst vs'
        refine .inr ⟨a, _, rfl, DPut.k (k := Sum.inr s) hk (by rw [lk]; exact hz), fin a _ rfl (by simp [ad]) (by simp [ad]) ?_⟩
        rw [ep]
        exact .dct upd_same hn (by simp [ek]) (by rw [List.map_append]; exact dl.append (.cons dn .nil))
    | _ => cases e

/-- from a run on, with a further expression -/
theorem bindS2 {K : PySem.W.Frag} {w : World} {α β : Type} {R1 : RR α β} {r : Env → Res α} {f : α → Env → Fl} {σ : St} {Hf H Hf1 H1 : Hp} {L T L1 : List WV} {env1 : Env} {Z : Ends} {Q' : β → Hp → Prop} (st : Step Hf H L Hf1 H1 (T ++ L1)) (fam : Fam K w Hf1 H1 (T ++ L1)) (sl : Sl env1 σ L1) (fin : FinS K w xi W keep σ Hf H L ((r env1).fl f) Z)
    (next : ∀ a env2 b T2 Hf2 H2 L2, R1 σ Hf2 a b T2 → Sl env2 σ L2 → Step Hf H L Hf2 H2 (T ++ (T2 ++ L2)) → Fam K w Hf2 H2 (T ++ (T2 ++ L2)) → Step Hf1 H1 L1 Hf2 H2 (T2 ++ L2) → FinS K w xi W keep σ Hf H L (f a env2) Z → Q' b H2) :
    tG K w xi W R1 r σ H1 Q' := by
  have famL : Fam K w Hf1 H1 L1 := fam.sub (List.sublist_append_right _ _)
  refine ⟨Hf1, env1, L1, ⟨sl, famL, st.sub⟩, ?_⟩
  cases e : r env1 with
  | ok a env2 =>
    intro b T2 Hf2 H2 L2 hR hs hst hf
    rw [e] at fin
    exact next a env2 b T2 Hf2 H2 L2 hR hs (st.trans hst) (fam.carry hst hf) hst fin
  | exc x env2 =>
    intro Hf2 H2 L2 cls dd hs hst hf hx
    rw [e] at fin
    exact fin σ Hf2 H2 L2 cls dd hs ((st.trans hst).less fun b q => Owned.append.mpr (.inr q)) hf (Kept.refl _) hx
  | bad =>
    rw [e] at fin
    exact fin
theorem s_setix {N : List Str} {nm : Nms} (c : CxOk X lv) (hN : X.N = N) (n : NmOk X nm) {i : Nat} {x : Str} {ie e : Expr} {re ri : Env → Res Ar} {p1 p2 pos : Pos} (hx : (decide (N[i]? = some x) && visB nm x && nameB x) = true) (he : Snd X xi W e re) (hi : Snd X xi W ie ri) (hs : notSl ie = true) (hc : isComp e = false) :
    SndS X xi W keep (.Assign [.Subscript (.Name x p1) ie p2] e pos) (fun env => (re env).fl fun a env => (item a env).fl fun v env => match slot env i with
    | none => .bad
    | some _ => (ri env).fl fun b env => match use env b, slot env i with
      | some k, some w => match setF w k v with
        | some w' => .nx (env.set i (some w'))
        | none => .bad
      | _, _ => .bad) := by
  obtain ⟨_, pv⟩ := snd_var (xi := xi) (W := W) (pos := p1) hN n hx
  refine impS (ps_asg he.pe (pg_sub pv hi.pe (set_all c) (fun v => by cases ie <;> first | rfl | cases hs)) (by cases e <;> first | rfl | cases hc) (by cases e <;> rfl) rfl) fun Z σ H q => ?_
  refine bindS (R1 := RAr) q fun Hf L a env1 v T1 Hf1 H1 L1 r1 sl1 st1 fam1 fin => ?_
  cases ea : item a env1 with
  | bad => rw [ea] at fin; exact fin.elim
  | exc => exact (item_noexc ea).elim
  | ok d env2 =>
    rw [ea] at fin
    obtain ⟨Hf2, L2, dn, sl2, st2, fam2⟩ := item_ok (M := []) r1 sl1 st1 fam1 ea
    cases es : slot env2 i with
    | none =>
      have fin : FinS X.K X.w xi W keep σ Hf H L (match slot env2 i with | none => .bad | some _ => (ri env2).fl fun b env => match use env b, slot env i with
        | some k, some w => match setF w k d with
          | some w' => .nx (env.set i (some w'))
          | none => .bad
        | _, _ => .bad) Z := fin
      rw [es] at fin; exact fin.elim
    | some y =>
      have fin : FinS X.K X.w xi W keep σ Hf H L (match slot env2 i with | none => .bad | some _ => (ri env2).fl fun b env => match use env b, slot env i with
        | some k, some w => match setF w k d with
          | some w' => .nx (env.set i (some w'))
          | none => .bad
        | _, _ => .bad) Z := fin
      rw [es] at fin
      obtain ⟨o, M, ho, _, _⟩ := sl2.out es
      refine ⟨o, ho, bindS2 (R1 := RAr) (T := []) st2 fam2 sl2 fin fun b env3 iv T3 Hf3 H3 L3 r3 sl3 st3 fam3 st23 fin3 => ?_⟩
      have st3 : Step Hf H L Hf3 H3 (T3 ++ L3) := st3
      have fam3 : Fam X.K X.w Hf3 H3 (T3 ++ L3) := fam3
      cases eu : use env3 b with
      | none => rw [eu] at fin3; exact fin3.elim
      | some k =>
        cases es3 : slot env3 i with
        | none => rw [eu, es3] at fin3; exact fin3.elim
        | some y3 =>
          rw [eu, es3] at fin3
          have fin3 : FinS X.K X.w xi W keep σ Hf H L (match setF y3 k d with | some w' => .nx (env3.set i (some w')) | none => .bad) Z := fin3
          cases ef : setF y3 k d with
          | none => rw [ef] at fin3; exact fin3.elim
          | some y4 =>
            rw [ef] at fin3
            exact setF_fin (w := X.w) sl3 (st3.less fun b q => Owned.append.mpr (.inr q)) (fam3.sub (List.sublist_append_right _ _)) es3 ho (use_view r3 (fun _ h => h) sl3 fam3 eu) (dn.mono st23.subf) ef fun H' L' a b c => fin3 σ Hf3 H' L' a b c (Kept.refl _)

/-! ### several names at once -/
theorem s_unp {N : List Str} {nm : Nms} (c : CxOk X lv) (hN : X.N = N) (n : NmOk X nm) {tg : Tg} {t e : Expr} {re : Env → Res Ar} {pos : Pos} (ht : tgOk N nm tg t = true) (he : Snd X xi W e re) (hc : isComp e = false) (hsw : swappedStores [t] e X.env = pure none) :
    SndS X xi W keep (.Assign [t] e pos) (fun env => (re env).fl fun a env => (item a env).fl fun d env => nxO (assignTg keep tg d env)) := by
  refine impS (ps_asg he.pe (pg_tg c hN n ht) (by cases e <;> first | rfl | cases hc) hsw (by unfold tgOk at ht; split at ht <;> first | rfl | cases ht)) fun Z σ H q => ?_
  refine bindS (R1 := RAr) q fun Hf L a env1 v T1 Hf1 H1 L1 r1 sl1 st1 fam1 fin => ?_
  cases ea : item a env1 with
  | bad => rw [ea] at fin; exact fin.elim
  | exc => exact (item_noexc ea).elim
  | ok d env2 =>
    rw [ea] at fin
    obtain ⟨Hf2, L2, dn, sl2, st2, fam2⟩ := item_ok (M := []) r1 sl1 st1 fam1 ea
    have fin : FinS X.K X.w xi W keep σ Hf H L (nxO (assignTg keep tg d env2)) Z := fin
    cases et : assignTg keep tg d env2 with
    | none => rw [et] at fin; exact fin.elim
    | some env3 =>
      rw [et] at fin
      exact tg_fin (T := []) et sl2 st2 fam2 dn fun σ' L' a b c _ _ k => fin σ' Hf2 H1 L' a b c k
def parR (keep : List Nat) (i j : Nat) (ra rb : Env → Res Ar) : Env → Fl := fun env => (ra env).fl fun x env => (rb env).fl fun y env => match x, y with
      | .val w, .val u => nxO ((store keep i w env).bind (store keep j u))
      | x, y => (item x env).fl fun dx env => (item y env).fl fun dy env => nxO ((store keep i (.d dx) env).bind (store keep j (.d dy)))
theorem store2 {K : PySem.W.Frag} {w : World} {σ : St} {Hf H Hf1 H1 : Hp} {L L1 : List WV} {env : Env} {x y : PyEv.W} {v u : V} {i j : Nat} {Z : Ends} (fin : FinS K w xi W keep σ Hf H L (nxO ((store keep i x env).bind (store keep j y))) Z) (sl : Sl env σ L1)
    (st : Step Hf H L Hf1 H1 ((x, v) :: ([(y, u)] ++ L1))) (fam : Fam K w Hf1 H1 ((x, v) :: ([(y, u)] ++ L1))) : Z.nx ((σ.set i (some v)).set j (some u)) H1 := by
  cases e : store keep i x env with
  | none => rw [e] at fin; exact fin.elim
  | some env1 =>
    rw [e] at fin
    have fin : FinS K w xi W keep σ Hf H L (nxO (store keep j y env1)) Z := fin
    obtain ⟨hk, hi, rfl⟩ := store_len e
    obtain ⟨L', a, b, c⟩ := sl.put2 (T := [(y, u)]) hi st fam
    cases e2 : store keep j y (env.set i (some x)) with
    | none => rw [e2] at fin; exact fin.elim
    | some env2 =>
      rw [e2] at fin
      obtain ⟨hk2, hj, rfl⟩ := store_len e2
      obtain ⟨L2, a2, b2, c2⟩ := a.put2 (T := []) hj b c
      exact fin _ Hf1 H1 L2 a2 b2 c2 fun m hm => by rw [List.getElem?_set_ne (ne_keep hk2 hm), List.getElem?_set_ne (ne_keep hk hm)]
theorem par_run {i j : Nat} {ra rb : Env → Res Ar} {Z : Ends} {σ : St} {H : Hp} (q : tSG X.K X.w xi W keep (parR keep i j ra rb) Z σ H) : tPar i j (tCons (tG X.K X.w xi W RAr ra) (tCons (tG X.K X.w xi W RAr rb) tNil)) Z σ H := by
  refine bindS (R1 := RAr) q fun Hf L x env1 v T1 Hf1 H1 L1 r1 sl1 st1 fam1 fin => ?_
  refine bindS2 (R1 := RAr) (T := T1) st1 fam1 sl1 fin fun y env2 u T2 Hf2 H2 L2 r2 sl2 st2 fam2 _ fin2 => ?_
  refine ⟨v, u, rfl, ?_⟩
  have gen : FinS X.K X.w xi W keep σ Hf H L ((item x env2).fl fun dx env => (item y env).fl fun dy env => nxO ((store keep i (.d dx) env).bind (store keep j (.d dy)))) Z → Z.nx ((σ.set i (some v)).set j (some u)) H2 := fun fin => by
    cases ea : item x env2 with
    | bad => rw [ea] at fin; exact fin.elim
    | exc => exact (item_noexc ea).elim
    | ok dx env3 =>
      rw [ea] at fin
      have fin : FinS X.K X.w xi W keep σ Hf H L ((item y env3).fl fun dy env => nxO ((store keep i (.d dx) env).bind (store keep j (.d dy)))) Z := fin
      -- first x for good, with y's things beside
      have pm : (T1 ++ (T2 ++ L2)).Perm (T2 ++ (T1 ++ L2)) := by
        rw [← List.append_assoc, ← List.append_assoc]
        exact List.Perm.append_right _ List.perm_append_comm
      obtain ⟨Hf3, L3, dn3, sl3, st3, fam3⟩ := item_ok (M := T2) r1 sl2 (st2.less fun b q => (Owned.perm pm).mpr q) (fam2.perm pm) ea
      cases eb : item y env3 with
      | bad => rw [eb] at fin; exact fin.elim
      | exc => exact (item_noexc eb).elim
      | ok dy env4 =>
        rw [eb] at fin
        have stx : Step Hf H L Hf3 H2 ([(.d dx, v)] ++ (T2 ++ L3)) := st3.less fun b q => by
          rcases Owned.cons.mp q with q | q
          · cases q
          · exact q
        obtain ⟨Hf4, L4, dn4, sl4, st4, fam4⟩ := item_ok (M := [(.d dx, v)]) r2 sl3 stx (fam3.cons_d dn3) eb
        have dx4 : Den X.K X.w Hf4 dx v := by
          have := fam4.rep (.d dx, v) (List.mem_append_left _ List.mem_cons_self)
          cases this with
          | d h => exact h
        have fam5 : Fam X.K X.w Hf4 H2 L4 := fam4.sub (List.sublist_append_right _ _)
        exact store2 fin sl4 (st4.less fun b q => by
          rcases Owned.cons.mp q with q | q
          · cases q
          · rcases Owned.append.mp q with q | q
            · rcases Owned.cons.mp q with q | q
              · cases q
              · exact (Owned.nil q).elim
            · exact Owned.append.mpr (.inr q)) ((fam5.cons_d dn4).cons_d dx4)
  cases r1 with
  | vr h => exact gen (by cases y <;> exact fin2)
  | @val _ _ a _ =>
    cases r2 with
    | vr h => exact gen fin2
    | @val _ _ b _ => exact store2 fin2 sl2 st2 fam2
end
end PyEv

set_option maxRecDepth 100000
set_option maxHeartbeats 2000000
/-! PyS3: which assignments swap; the check of statements. -/
namespace PyEv
open PySem L2
variable [TabL]

section
variable {X : Cx} {nm : Nms}
theorem blk_fn {env : PySem.Env} (h : env.scope.kind = .function) : env.blockKind = .function := by unfold Env.blockKind; rw [h]; rfl
theorem kind_loc {env : PySem.Env} {x : Str} (h : env.scope.names.lookup x = some .local) : (env.kindOf x == some NameKind.local) = true := by
  have e : env.kindOf x = env.scope.names.lookup x := rfl
  rw [e, h]; rfl
theorem kind_noloc {env : PySem.Env} {x : Str} (h : env.scope.names.lookup x = some .cell ∨ env.scope.names.lookup x = some .free) : (env.kindOf x == some NameKind.local) = false := by
  have e : env.kindOf x = env.scope.names.lookup x := rfl
  rcases h with h | h <;> rw [e, h] <;> rfl
theorem swapYes {env : PySem.Env} {x y : Str} {px py pt pt2 : Pos} {kt k2} {a b : Expr} (hk : env.scope.kind = .function) (hx : env.scope.names.lookup x = some .local) (hy : env.scope.names.lookup y = some .local) (hl : (py.line == px.line) = true) (hxy : (x == y) = false)
    (ha : plainX a = true) (hb : plainX b = true) (hf : (foldedForSure 8 a && foldedForSure 8 b) = false) (hc : (constantsAlone 8 a && constantsAlone 8 b) = false) :
    swappedStores [.Tuple [.Name x px, .Name y py] kt pt] (.Tuple [a, b] k2 pt2) env = pure (some [x, y]) := by
  have h2 : [a, b].all (foldedForSure 8) = false := by simpa using hf
  have h3 : [a, b].all (constantsAlone 8) = false := by simpa using hc
  have hxy' : (y == x) = false := by
    cases h : y == x with
    | false => rfl
    | true => have := (beq_iff_eq.mp h); subst this; simp at hxy
  unfold swappedStores
  simp only [h2, h3, blk_fn hk, List.filterMap_cons, List.filterMap_nil, kind_loc hx, kind_loc hy, hl, Expr.pos, List.head?_cons, Option.map_some, Option.getD_some, List.any_cons, List.any_nil]
  refine (if_neg (show ¬ (false = true) from Bool.false_ne_true)).trans ?_
  refine (if_neg ?_).trans ?_
  · intro h
    rw [Bool.or_eq_true] at h
    rcases h with h | h
    · cases a <;> first | (cases ha; done) | (cases h; done)
    · rw [Bool.or_false] at h
      cases b <;> first | (cases hb; done) | (cases h; done)
  · have e : (px.line == px.line) = true := by simp
    simp only [e]
    refine (if_neg ?_).trans ?_
    · show ¬ (([x, y].length != 0 + 1 + 1) || (([x, y].eraseDups.length != [x, y].length))) = true
      simp [List.eraseDups_cons, hxy, hxy']
    · rfl
theorem swapNo {env : PySem.Env} {x y : Str} {px py pt pt2 : Pos} {kt k2} {a b : Expr} (h : (env.scope.names.lookup x = some .cell ∨ env.scope.names.lookup x = some .free) ∨ (env.scope.names.lookup y = some .cell ∨ env.scope.names.lookup y = some .free) ∨ (foldedForSure 8 a && foldedForSure 8 b) = true) (ha : plainX a = true) (hb : plainX b = true) :
    swappedStores [.Tuple [.Name x px, .Name y py] kt pt] (.Tuple [a, b] k2 pt2) env = pure none := by
  unfold swappedStores
  simp only [List.filterMap_cons, List.filterMap_nil, Expr.pos, List.head?_cons, Option.map_some, Option.getD_some, List.any_cons, List.any_nil]
  by_cases hk : (env.blockKind != .function) = true
  · rw [hk]; rfl
  · have hk : (env.blockKind != .function) = false := by simpa using hk
    rw [hk]
    refine (if_neg (show ¬ (false = true) from Bool.false_ne_true)).trans ?_
    refine (if_neg ?_).trans ?_
    · intro h
      rw [Bool.or_eq_true] at h
      rcases h with h | h
      · cases a <;> first | (cases ha; done) | (cases h; done)
      · rw [Bool.or_false] at h
        cases b <;> first | (cases hb; done) | (cases h; done)
    · rcases h with h | h | h
      · simp only [kind_noloc h, Bool.false_and, Bool.false_eq_true, if_false]
        exact if_pos (by by_cases hb : (env.kindOf y == some .local && py.line == px.line) = true <;> simp only [hb] <;> rfl)
      · simp only [kind_noloc h, Bool.false_and, Bool.false_eq_true, if_false]
        exact if_pos (by by_cases hb : (env.kindOf x == some .local && px.line == px.line) = true <;> simp only [hb] <;> rfl)
      · have h2 : [a, b].all (foldedForSure 8) = true := by simpa using h
        simp only [h2, if_true]
        exact ite_self _
end
end PyEv

set_option maxRecDepth 100000
set_option maxHeartbeats 2000000
/-! PyF1: calls. -/
namespace PyEv
open PySem L2
variable [TabL]

/-! ### the promise of a def, around which nothing is being shown (guards = []) -/
structure FnG (P : Program) (w : World) (K : PySem.W.Frag) (mg : Str → Option Value) (base : Heap) (k : Nat) (f : Addr) (fd : FuncData) (ps : List Str) (sp : Sp) : Prop where
  len : ∀ vs H Q E, sp vs H Q E → vs.length = ps.length
  run : ∀ (A : Around) (outer : List PySem.Env) (s : Shared) (H : Hp) (args : Args) (us : List Value) (vs : List V) (Q : VK) (E : XK), A.guards = some [] → Room k A → Env0 P w K mg base A outer s H → BindsTo s fd args (ps.zip us) → Vals vs us → sp vs H Q E →
    codeAny (model P w) A (.call (.ref f) args) (CR (L2.CX P w) outer P w H s Q E) s

section
variable {X : Cx} {k : Nat} {f : Addr} {fd : FuncData} {ps : List Str} {sp : Sp} {E : St → XK} {x : Str} {p pos : Pos} {e : Expr} {es : List Expr} {t : TA}
theorem pe_callG (F : FnG X.prog X.w X.K X.mg X.base k f fd ps sp) (hg0 : X.A.guards = some []) (hr : Room k X.A) (hg : Gl X x) (hm : X.mg x = some (.ref f)) (hk : PySem.W.keepIn X.K (.ref f) = true) (hb : Binds X.K fd ps []) (hx : ∀ σ, PassesAt (L2.CX X.prog X.w) X σ (E σ))
    (ha : PA X (e :: es) t) (hdb : (x == ("__debug__" : Str)) = false) (he : starEach (e :: es) X.env = (false, eval e X.env) :: starEach es X.env) (hpl : (backTo pos (starEach es X.env)).any (·.1) = false) :
    PE X (.Call (.Name x p) (e :: es) [] pos) (tCallS sp E t) := by
  refine ⟨fun pins s σ H Q I h => ?_⟩
  refine wpAny_Call_Name_kw (ld_glob I hg hm ?_ hdb)
  refine PySem.W.callWith_K (h₀ := X.base) I.ok.mod.kin hk (thn (ha.run pos pins s σ H _ I h) fun us s1 ⟨vs, H1, I1, r, q⟩ => ⟨I1.kIn, ?_⟩) he hpl
  have hl : us.length = ps.length := by rw [← r.length]; exact F.len _ _ _ _ q
  have b := hb s1 us I1.kIn (by rw [List.append_nil]; exact hl)
  rw [List.append_nil] at b
  refine wpAny_call (codeAny_mono (F.run X.A X.stack s1 H1 ⟨us, []⟩ us vs Q (E σ) hg0 hr I1.env0 b r q) fun r s' hq => ?_)
  cases r with
  | error e => exact hx σ pins H1 s1 e s' I1 hq
  | ok fl =>
    cases fl with
    | ret u => exact I1.after hq
    | next => exact False.elim hq
    | brk => exact False.elim hq
    | cont => exact False.elim hq
end

open PySem.Spec PyProof.Rows in
/-- a def by its body -/
theorem fnG_of {P : Program} {w : World} {K : PySem.W.Frag} {mg : Str → Option Value} {base : Heap} {k : Nat} {f : Addr} {x qual : Str} {st : Stmt} {fd : FuncData} {N ps : List Str} {sp : Sp} (F : L2.Fun K x qual st f fd) (S : FnScope N ps (defScope st))
    (len : ∀ vs H Q E, sp vs H Q E → vs.length = ps.length)
    (hbody : ∀ (cdv : Value) (A : Around) (outer : List PySem.Env) (s : Shared) (H : Hp) (vs : List V) (Q : VK) (E : XK), (∀ (h : Heap) (c P : Addr), K.In h → h.Ns mainGlobals mg → mg x = some (.ref f) → PySem.W.tabIn K x = some (c, P) → cdv = .ref c) → A.guards = some [] → Room k (A.deeper (envOfC qual (defScope st) s.heap.objs.size f cdv)) → sp vs H Q E →
      ∃ t, PSs (cxOf (L2.CX P w) P w K mg base N qual (defScope st) f cdv A outer s H E) (defBody st) t ∧ t { nx := fun _ H' => Q .non H', rt := Q } (start N vs) H) :
    FnG P w K mg base (k + 1) f fd ps sp := by
  obtain ⟨oc, od, kV, doc, pm, an, cdv, ct, osl, rfl, lk, hcd⟩ := F.ex
  refine ⟨len, fun A outer s H args us vs Q E hg hr e0 hb r hsp => ?_⟩
  have hl := len _ _ _ _ hsp
  have KX : K.In s.heap := e0.mod.kin.keeps fun b o e => (e0.bs b o e).1
  have lim : s.heap.NoLimit := e0.mod.nolimit.keeps fun b o e => (e0.bs b o e).1
  have hkind : ∀ y ∈ ps.zip us, (defScope st).names.lookup y.1 = some .local ∨ ((defScope st).names.lookup y.1 = some .cell ∧ ((cellsFrom (s.heap.objs.size + 1) (defScope st).names []).lookup y.1).isSome = true) := fun ⟨n, v⟩ hy => by
    rcases S.par n (List.of_mem_zip hy).1 with q | q
    · exact .inl q
    · exact .inr ⟨q, PySem.W.cellsFrom_some _ _ _ (.inl q)⟩
  refine codeAny_call_function hr.depth (KX _ _ lk) rfl S.co S.gen rfl (PySem.W.codeRec_of KX hcd) (hb _ _ _ _ ?_)
  refine wpAny_newFunctionEnv_cells S.kind hkind fun env he s1 x => ?_
  subst he
  refine ⟨lim.keeps x.toInCall.keep, codeAny_func ?_⟩
  obtain ⟨t, ht, hq⟩ := hbody cdv A outer s H vs Q E (fun h c P X G hm ht => PySem.W.law_code X G ht hm (X _ _ lk) rfl) hg (hr.deeper _) hsp
  have I := inv_start (CX := L2.CX P w) (E := E) (cd := cdv) (qual := qual) S hr.hd e0 hl r x
  refine wpAny_mono (ht.run [] s1 (start N vs) H _ I hq) (fun fl s' hs => ?_) fun e s' hs => hs
  have fin : ∀ {σ' : L2.St} {H' : Hp} {v : V} {u : Value}, Inv (cxOf (L2.CX P w) P w K mg base N qual (defScope st) f cdv A outer s H E) [] σ' H' s' → RelV v u → Q v H' → CE outer P w H s Q u s' :=
    fun {σ' H' v u} J rv q => ⟨v, H', J.os, J.bare, J.base, J.hok, rv, q⟩
  cases fl with
  | ret u =>
    obtain ⟨v, σ', H', J, rv, q⟩ := hs
    exact fin J rv q
  | next =>
    obtain ⟨σ', H', J, q⟩ := hs
    exact fin (v := V.non) (u := Value.none) J rfl q
  | brk =>
    obtain ⟨_, _, _, q⟩ := hs
    exact False.elim q
  | cont =>
    obtain ⟨_, _, _, q⟩ := hs
    exact False.elim q

/-! ### arguments handed over -/
section
variable {K : PySem.W.Frag} {w : World}
theorem bindA_ok {keep : List Nat} : ∀ {ars : List Ar} {vs : List V} {T : List WV} {j : Nat} {env : Env} {ws : List PyEv.W} {env2 : Env} {l : List (Nat × Nat)} {L M : List WV} {σ : St} {Hx Hf H : Hp}, RArs σ Hx ars vs T → Sl env σ L → Fam K w Hf H (M ++ (T ++ L)) → bindA keep ars j env = some (ws, env2, l) →
    ∃ L2, Sl env2 σ L2 ∧ ws.length = vs.length ∧ Fam K w Hf H (M ++ (ws.zip vs ++ L2)) ∧ (∀ b, Owned (ws.zip vs ++ L2) b → Owned (T ++ L) b) ∧ (∀ p ∈ l, p.2 ∈ keep ∧ j ≤ p.2 ∧ ∃ v, σ[p.1]? = some (some v) ∧ vs[p.2 - j]? = some v) ∧ (l.map (·.2)).Nodup
  | [], _, _, j, env, ws, env2, l, L, M, σ, Hx, Hf, H, .nil, sl, fam, e => by
    have e' : some (([] : List PyEv.W), env, ([] : List (Nat × Nat))) = some (ws, env2, l) := e
    cases e'
    exact ⟨L, sl, rfl, fam, fun b h => h, (fun p h => nomatch h), List.nodup_nil⟩
  | .val x :: r, _, _, j, env, ws, env2, l, L, M, σ, Hx, Hf, H, .cons (v := v) (vs := vs) (Ts := Ts) .val rs, sl, fam, e => by
    have e' : (bindA keep r (j + 1) env).map (fun (ws, e, l) => (x :: ws, e, l)) = some (ws, env2, l) := e
    cases eb : bindA keep r (j + 1) env with
    | none => rw [eb] at e'; cases e'
    | some q =>
      obtain ⟨ws', e2, l'⟩ := q
      rw [eb] at e'
      have e' : some (x :: ws', e2, l') = some (ws, env2, l) := e'
      cases e'
      obtain ⟨L2, a1, a2, a3, a4, a5, a6⟩ := bindA_ok (M := M ++ [(x, v)]) rs sl (by simpa using fam) eb
      refine ⟨L2, a1, by simp [a2], by simpa using a3, fun b h => ?_, fun p hp => ?_, a6⟩
      · rcases Owned.cons.mp h with h | h
        · exact Owned.cons.mpr (.inl h)
        · exact Owned.cons.mpr (.inr (a4 b h))
      · obtain ⟨h1, h2, u, h3, h4⟩ := a5 p hp
        refine ⟨h1, by omega, u, h3, ?_⟩
        rw [show p.2 - j = (p.2 - (j + 1)) + 1 by omega, List.getElem?_cons_succ]
        exact h4
  | .vr i :: r, _, _, j, env, ws, env2, l, L, M, σ, Hx, Hf, H, .cons (v := v) (vs := vs) (Ts := Ts) (.vr hi) rs, sl, fam, e => by
    have e' : (match slot env i with
      | some (.d x) => (bindA keep r (j + 1) env).map fun (ws, e, l) => (PyEv.W.d x :: ws, e, l)
      | some w => if keep.contains j then (bindA keep r (j + 1) (env.set i none)).map fun (ws, e, l) => (w :: ws, e, (i, j) :: l) else none
      | none => none) = some (ws, env2, l) := e
    rw [List.nil_append] at fam
    cases es : slot env i with
    | none => rw [es] at e'; cases e'
    | some x =>
      rw [es] at e'
      obtain ⟨u, N, h1, h2, p⟩ := sl.out es
      rw [hi] at h1; cases h1
      have own : (if keep.contains j then (bindA keep r (j + 1) (env.set i none)).map fun (ws, e, l) => (x :: ws, e, (i, j) :: l) else none) = some (ws, env2, l) →
          ∃ L2, Sl env2 σ L2 ∧ ws.length = (v :: vs).length ∧ Fam K w Hf H (M ++ (ws.zip (v :: vs) ++ L2)) ∧ (∀ b, Owned (ws.zip (v :: vs) ++ L2) b → Owned ([] ++ Ts ++ L) b) ∧ (∀ p ∈ l, p.2 ∈ keep ∧ j ≤ p.2 ∧ ∃ u, σ[p.1]? = some (some u) ∧ (v :: vs)[p.2 - j]? = some u) ∧ (l.map (·.2)).Nodup := fun e' => by
        by_cases hk : keep.contains j = true
        · rw [if_pos hk] at e'
          cases eb : bindA keep r (j + 1) (env.set i none) with
          | none => rw [eb] at e'; cases e'
          | some q =>
            obtain ⟨ws', e2, l'⟩ := q
            rw [eb] at e'
            have e' : some (x :: ws', e2, (i, j) :: l') = some (ws, env2, l) := e'
            cases e'
            have pm : (M ++ (Ts ++ L)).Perm ((M ++ [(x, v)]) ++ (Ts ++ N)) := by
              have h : (M ++ (Ts ++ L)).Perm (M ++ (Ts ++ ((x, v) :: N))) := (List.perm_append_left_iff M).mpr ((List.perm_append_left_iff Ts).mpr p)
              refine h.trans ?_
              rw [List.append_assoc]
              exact (List.perm_append_left_iff M).mpr List.perm_middle
            obtain ⟨L2, a1, a2, a3, a4, a5, a6⟩ := bindA_ok (M := M ++ [(x, v)]) rs h2 (fam.perm pm) eb
            refine ⟨L2, a1, by simp [a2], by simpa using a3, fun b h => ?_, fun q hq => ?_, ?_⟩
            · rw [List.nil_append]
              have pm2 : (Ts ++ L).Perm ((x, v) :: (Ts ++ N)) := ((List.perm_append_left_iff Ts).mpr p).trans List.perm_middle
              refine (Owned.perm pm2).mpr ?_
              rcases Owned.cons.mp h with h | h
              · exact Owned.cons.mpr (.inl h)
              · exact Owned.cons.mpr (.inr (a4 b h))
            · rcases List.mem_cons.mp hq with rfl | hq
              · refine ⟨by simpa using hk, Nat.le_refl _, v, hi, ?_⟩
                rw [Nat.sub_self]; rfl
              · obtain ⟨h1, h2, u, h3, h4⟩ := a5 q hq
                refine ⟨h1, by omega, u, h3, ?_⟩
                rw [show q.2 - j = (q.2 - (j + 1)) + 1 by omega, List.getElem?_cons_succ]
                exact h4
            · rw [List.map_cons, List.nodup_cons]
              refine ⟨fun hm => ?_, a6⟩
              obtain ⟨q, hq, he⟩ := List.mem_map.mp hm
              have := (a5 q hq).2.1
              have he : q.2 = j := he
              omega
        · rw [if_neg hk] at e'; cases e'
      cases x with
      | d y =>
        have e' : (bindA keep r (j + 1) env).map (fun (ws, e, l) => (PyEv.W.d y :: ws, e, l)) = some (ws, env2, l) := e'
        cases eb : bindA keep r (j + 1) env with
        | none => rw [eb] at e'; cases e'
        | some q =>
          obtain ⟨ws', e2, l'⟩ := q
          rw [eb] at e'
          have e' : some (PyEv.W.d y :: ws', e2, l') = some (ws, env2, l) := e'
          cases e'
          have dn : Den K w Hf y v := by
            have := fam.rep (.d y, v) (List.mem_append_right _ (List.mem_append_right _ (p.mem_iff.mpr List.mem_cons_self)))
            cases this with
            | d h => exact h
          have fm : Fam K w Hf H ((M ++ [(.d y, v)]) ++ (Ts ++ L)) := by
            rw [List.append_assoc]
            exact (fam.cons_d dn).perm List.perm_middle.symm
          obtain ⟨L2, a1, a2, a3, a4, a5, a6⟩ := bindA_ok (M := M ++ [(.d y, v)]) rs sl fm eb
          refine ⟨L2, a1, by simp [a2], by simpa using a3, fun b h => ?_, fun p hp => ?_, a6⟩
          · rcases Owned.cons.mp h with h | h
            · cases h
            · exact a4 b h
          · obtain ⟨h1, h2, u, h3, h4⟩ := a5 p hp
            refine ⟨h1, by omega, u, h3, ?_⟩
            rw [show p.2 - j = (p.2 - (j + 1)) + 1 by omega, List.getElem?_cons_succ]
            exact h4
      | lst ys => exact own e'
      | dct ks ys => exact own e'

theorem backA_ok : ∀ {l : List (Nat × Nat)} {outs env : Env} {σ σ' : St} {L Lo M : List WV} {Hf H : Hp}, Sl env σ L → Sl outs σ' Lo → Fam K w Hf H (M ++ (L ++ Lo)) → (∀ p ∈ l, ∃ v, σ[p.1]? = some (some v) ∧ σ'[p.2]? = some (some v)) → (l.map (·.2)).Nodup →
    ∃ L2, Sl (backA outs env l) σ L2 ∧ Fam K w Hf H (M ++ L2) ∧ ∀ b, Owned L2 b → Owned (L ++ Lo) b
  | [], outs, env, σ, σ', L, Lo, M, Hf, H, sl, so, fam, hv, nd => ⟨L, sl, fam.sub ((List.Sublist.refl M).append (List.sublist_append_left L Lo)), fun b h => Owned.append.mpr (.inl h)⟩
  | (i, j) :: r, outs, env, σ, σ', L, Lo, M, Hf, H, sl, so, fam, hv, nd => by
    rw [List.map_cons, List.nodup_cons] at nd
    have rest : ∀ p ∈ r, ∃ v, σ[p.1]? = some (some v) ∧ σ'[p.2]? = some (some v) := fun p hp => hv p (List.mem_cons_of_mem _ hp)
    have same : ∀ (o : Option PyEv.W) (r : List (Nat × Nat)), j ∉ r.map (·.2) → backA (outs.set j o) env r = backA outs env r := fun o r => by
      induction r with
      | nil => intro _; rfl
      | cons p r ih =>
        intro hn
        simp only [List.map_cons, List.mem_cons, not_or] at hn
        show (backA (outs.set j o) env r).set p.1 ((outs.set j o).getD p.2 none) = (backA outs env r).set p.1 (outs.getD p.2 none)
        rw [ih hn.2]
        have : slot (outs.set j o) p.2 = slot outs p.2 := by rw [slot_set, if_neg hn.1]
        rw [show (outs.set j o).getD p.2 none = outs.getD p.2 none from this]
    show ∃ L2, Sl ((backA outs env r).set i (slot outs j)) σ L2 ∧ _
    cases es : slot outs j with
    | none =>
      obtain ⟨L2, a1, a2, a3⟩ := backA_ok sl so fam rest nd.2
      obtain ⟨M2, b1, b2⟩ := a1.drop i
      exact ⟨M2, b1, a2.sub ((List.Sublist.refl M).append b2), fun b ⟨q, hq, hb⟩ => a3 b ⟨q, b2.mem hq, hb⟩⟩
    | some x =>
      obtain ⟨u, N, h1, h2, p⟩ := so.out es
      obtain ⟨v, hv1, hv2⟩ := hv (i, j) List.mem_cons_self
      obtain rfl : u = v := by rw [hv2] at h1; exact (Option.some.inj (Option.some.inj h1)).symm
      have pm : (M ++ (L ++ Lo)).Perm ((M ++ [(x, u)]) ++ (L ++ N)) := by
        have h : (M ++ (L ++ Lo)).Perm (M ++ (L ++ ((x, u) :: N))) := (List.perm_append_left_iff M).mpr ((List.perm_append_left_iff L).mpr p)
        refine h.trans ?_
        rw [List.append_assoc]
        exact (List.perm_append_left_iff M).mpr List.perm_middle
      obtain ⟨L2, a1, a2, a3⟩ := backA_ok (l := r) (outs := outs.set j none) sl h2 (fam.perm pm) rest nd.2
      rw [same none r nd.1] at a1
      obtain ⟨M2, b1, b2⟩ := a1.drop i
      obtain ⟨L3, c1, c2⟩ := b1.into (x := x) hv1
      have pm2 : (L ++ Lo).Perm ((x, u) :: (L ++ N)) := ((List.perm_append_left_iff L).mpr p).trans List.perm_middle
      refine ⟨L3, c1, ?_, fun b h => (Owned.perm pm2).mpr ?_⟩
      · have f2 : Fam K w Hf H ((M ++ [(x, u)]) ++ M2) := a2.sub ((List.Sublist.refl _).append b2)
        refine f2.perm ?_
        rw [List.append_assoc]
        exact (List.perm_append_left_iff M).mpr c2.symm
      · rcases Owned.cons.mp ((Owned.perm c2).mp h) with h | h
        · exact Owned.cons.mpr (.inl h)
        · obtain ⟨q, hq, hb⟩ := h
          exact Owned.cons.mpr (.inr (a3 b ⟨q, b2.mem hq, hb⟩))
end
end PyEv

set_option maxRecDepth 100000
set_option maxHeartbeats 2000000
/-! PyF2: the promise by the evaluator; a call. -/
namespace PyEv
open PySem L2
variable [TabL]

section
variable (K : PySem.W.Frag) (w : World) (xi : XI)
def FinC (keep : List Nat) (vs : List V) (Hf H : Hp) (L : List WV) (r : CRes) (Q : VK) (E : XK) : Prop := match r with
  | .ok x outs => ∀ σ' v Hg H' L', Sl outs σ' L' → (∀ i ∈ keep, σ'[i]? = (vs.map some)[i]?) → Step Hf H L Hg H' ((x, v) :: L') → Fam K w Hg H' ((x, v) :: L') → Q v H'
  | .exc x outs => ∀ σ' Hg H' L' cls dd, Sl outs σ' L' → (∀ i ∈ keep, σ'[i]? = (vs.map some)[i]?) → Step Hf H L Hg H' L' → Fam K w Hg H' L' → xi cls dd x Hg H' → E cls dd H'
  | .bad => False
/-- the promise of a def: what the evaluator says -/
def spF (cf : Str → List PyEv.W → CRes) (f : Str) (keep : List Nat) : Sp := fun vs H Q E => ∃ Hf ws, ws.length = vs.length ∧ Same Hf H ∧ Fam K w Hf H (ws.zip vs) ∧ FinC K w xi keep vs Hf H (ws.zip vs) (cf f ws) Q E
end

/-- every def of the program as the world has it -/
structure DefW (P : Program) (w : World) (K : PySem.W.Frag) (mg : Str → Option Value) (base : Heap) (xi : XI) (PP : Prog) (cf : Str → List PyEv.W → CRes) (k : Nat) : Prop where
  fns : ∀ f fn, PP.fns.lookup f = some fn → ∃ a fd ps, mg f = some (.ref a) ∧ PySem.W.keepIn K (.ref a) = true ∧ Binds K fd ps [] ∧ FnG P w K mg base k a fd ps (spF K w xi cf f fn.keep)

theorem plainAll {env : PySem.Env} {pos : Pos} : ∀ {zs : List Expr}, (∀ z ∈ zs, plainX z = true) → (backTo pos (starEach zs env)).any (·.1) = false
  | [], _ => rfl
  | z :: zs, h => by
    rw [starEach_plain (h z List.mem_cons_self)]
    have := plainAll (env := env) (pos := pos) (zs := zs) fun y hy => h y (List.mem_cons_of_mem _ hy)
    unfold backTo at this ⊢
    rw [List.map_cons, List.any_cons, this]
    rfl

section
variable {X : Cx} {xi : XI} {W : WX} {lv : Nat}
theorem snd_call {PP : Prog} {cf : Str → List PyEv.W → CRes} (c : CxOk X lv) (d : DefW X.prog X.w X.K X.mg X.base xi PP cf lv) (tk : Takes X W) {nm : Nms} (n : NmOk X nm) {f x : Str} {a : Expr} {as : List Expr} {rs : Env → Res (List Ar)} {p pos : Pos}
    (hx : (decide (f = x) && glB nm x && nameB x) = true) (hp : plainX a = true) (hps : ∀ z ∈ as, plainX z = true) (hs : SndAs X xi W (a :: as) rs) :
    Snd X xi W (.Call (.Name x p) (a :: as) [] pos) (fun env => match PP.fns.lookup f with
      | none => .bad
      | some fn => (rs env).bind fun ars env => callA cf f fn ars env) := by
  simp only [Bool.and_eq_true, decide_eq_true_eq] at hx
  obtain ⟨⟨rfl, h2⟩, h3⟩ := hx
  obtain ⟨n1, _, _⟩ := nameB_of h3
  refine Snd.of_pe rfl ?_
  cases el : PP.fns.lookup f with
  | none => exact ⟨fun pins s σ H Q I q => by obtain ⟨Hf, env, L, s0, fin⟩ := q; exact fin.elim⟩
  | some fn =>
    obtain ⟨ad, fd, ps, hm, hk, hb, F⟩ := d.fns f fn el
    refine impE (pe_callG (E := fun σ cls dd H => W cls dd σ H) F c.guards c.room (n.gl _ h2) hm hk hb (passAt tk) hs n1 (starEach_plain hp) (plainAll hps)) fun σ H Q q => ?_
    refine bindF (R1 := RArs) (R2 := RAr) q fun Hf L ars env1 vs T1 Hf1 H1 L1 r1 sl1 st1 fam1 fin => ?_
    cases eb : bindA fn.keep ars 0 env1 with
    | none =>
      have fin : Fin X.K X.w xi W RAr σ Hf H L (callA cf f fn ars env1) Q := fin
      unfold callA at fin
      rw [eb] at fin
      exact fin.elim
    | some q =>
      obtain ⟨ws, env2, l⟩ := q
      have fin : Fin X.K X.w xi W RAr σ Hf H L (callA cf f fn ars env1) Q := fin
      unfold callA at fin
      rw [eb] at fin
      have fin : Fin X.K X.w xi W RAr σ Hf H L (match cf f ws with | .ok w outs => .ok (.val w) (backA outs env2 l) | .exc x outs => .exc x (backA outs env2 l) | .bad => .bad) Q := fin
      obtain ⟨L2, a1, a2, a3, a4, a5, a6⟩ := bindA_ok (M := []) r1 sl1 fam1 eb
      have a3 : Fam X.K X.w Hf1 H1 (ws.zip vs ++ L2) := a3
      have pm : (ws.zip vs ++ L2).Perm (L2 ++ ws.zip vs) := List.perm_append_comm
      have st2 : Step Hf H L Hf1 H1 (L2 ++ ws.zip vs) := st1.less fun b h => a4 b ((Owned.perm pm).mpr h)
      refine ⟨Hf1, ws, a2, st1.sub, a3.sub (List.sublist_append_left _ _), ?_⟩
      have look : ∀ (σ' : List (Option V)), (∀ i ∈ fn.keep, σ'[i]? = (vs.map some)[i]?) → ∀ p ∈ l, ∃ v, σ[p.1]? = some (some v) ∧ σ'[p.2]? = some (some v) := fun σ' hk p hp => by
        obtain ⟨h1, _, v, h3, h4⟩ := a5 p hp
        refine ⟨v, h3, ?_⟩
        rw [hk p.2 h1, List.getElem?_map]
        have h4 : vs[p.2]? = some v := h4
        rw [h4]; rfl
      cases er : cf f ws with
      | bad => rw [er] at fin; exact fin
      | ok x outs =>
        rw [er] at fin
        intro σ' v Hg H' L' so hk st fam
        have f3 := (a3.perm pm).carry st fam
        have s3 := st2.trans st
        have pm3 : (L2 ++ ((x, v) :: L')).Perm ([(x, v)] ++ (L2 ++ L')) := List.perm_middle
        obtain ⟨L3, b1, b2, b3⟩ := backA_ok (M := [(x, v)]) (a1) so (f3.perm pm3) (look σ' hk) a6
        exact fin v [(x, v)] Hg H' L3 .val b1 (s3.less fun b h => by
          refine (Owned.perm pm3).mpr ?_
          rcases Owned.cons.mp h with h | h
          · exact Owned.cons.mpr (.inl h)
          · exact Owned.cons.mpr (.inr (b3 b h))) b2
      | exc x outs =>
        rw [er] at fin
        intro σ' Hg H' L' cls dd so hk st fam hx
        have f3 := (a3.perm pm).carry st fam
        have s3 := st2.trans st
        obtain ⟨L3, b1, b2, b3⟩ := backA_ok (M := []) (a1) so f3 (look σ' hk) a6
        exact fin Hg H' L3 cls dd b1 (s3.less b3) b2 hx
end
end PyEv

set_option maxRecDepth 100000
set_option maxHeartbeats 4000000
/-! PyX4: exceptions of the evaluator are sound. -/
namespace PyEv
open PySem L2
variable [TabL]

abbrev veMro : List Value := [.type "ValueError", .type "Exception", .type "BaseException", .type "object"]
def excMro (c : Str) (C TU : Addr) : List Value := if c = "TypeUnknown" then .ref C :: veMro else .ref C :: .ref TU :: veMro
/-- the class c of the package at C, TypeUnknown at TU -/
structure ExcF (prog : Program) (K : PySem.W.Frag) (mg : Str → Option Value) (c : Str) (C TU : Addr) : Prop where
  ns : PySem.W.nsIn K mainGlobals c = some (some (.ref C))
  gl : mg c = some (.ref C)
  tu : ∃ f, TuC prog K C f ∧ PySem.W.findIn K (.ref C) "__init__" = some (some (.ref f)) ∧ PySem.W.typeIn K (.ref f) = some (.type "function")
  xf : XfC K C
  ex : ExcC K C
  mro : ∃ cd, PySem.W.clsIn K C = some cd ∧ cd.mro = excMro c C TU
structure ExcsOk (prog : Program) (K : PySem.W.Frag) (mg : Str → Option Value) (es : List Str) : Prop where
  ad : es ≠ [] → ∃ (TU : Addr) (ad : Str → Addr), ad "TypeUnknown" = TU ∧ es.contains "TypeUnknown" = true ∧ (∀ c, es.contains c = true → ExcF prog K mg c (ad c) TU) ∧ ∀ c k, es.contains c = true → es.contains k = true → ad c = ad k → c = k
  sup : mg "super" = none
  ve : mg "ValueError" = none
theorem ExcsOk.get {prog : Program} {K : PySem.W.Frag} {mg : Str → Option Value} {es : List Str} {c : Str} (X : ExcsOk prog K mg es) (h : es.contains c = true) :
    ∃ (TU : Addr) (ad : Str → Addr), ad "TypeUnknown" = TU ∧ es.contains "TypeUnknown" = true ∧ (∀ c, es.contains c = true → ExcF prog K mg c (ad c) TU) ∧ ∀ c k, es.contains c = true → es.contains k = true → ad c = ad k → c = k :=
  X.ad fun z => by rw [z] at h; cases h

/-- how an exception of data lies -/
def xiE (K : PySem.W.Frag) (w : World) : XI := fun cls dd x Hg _ => ∃ (c : Str) (y : D) (C d : Addr) (v : V), x = .exc c y ∧ cls = .ref C ∧ dd = some d ∧ PySem.W.nsIn K mainGlobals c = some (some (.ref C)) ∧ Hg d = some (.xd [("value", v)]) ∧ Den K w Hg y v

section
variable {K : PySem.W.Frag} {prog : Program} {mg : Str → Option Value} {c k : Str} {C TU : Addr}
theorem ExcF.cls (F : ExcF prog K mg c C TU) : (PySem.W.clsIn K C).isSome = true ∧ PySem.W.typeIn K (.ref C) = some (.type "type") := by
  obtain ⟨cd, h, _⟩ := F.mro
  obtain ⟨f, t, _⟩ := F.tu
  exact ⟨by rw [h]; rfl, t.cls.tyC⟩
theorem ExcF.sub (F : ExcF prog K mg c C TU) (b : Value) : PySem.W.subIn K (.ref C) b = some ((excMro c C TU).contains b) := by
  obtain ⟨cd, h, m⟩ := F.mro
  show PySem.W.mroIn K C b = _
  unfold PySem.W.mroIn
  rw [h, Option.bind_some, m]
  have ne : (excMro c C TU).isEmpty = false := by unfold excMro; split <;> rfl
  rw [ne]
  rfl
theorem veMro_ref (a : Addr) : veMro.contains (.ref a) = false := by
  simp [veMro]
theorem ExcF.kit {ad : Str → Addr} {es : List Str} (hTU : ad "TypeUnknown" = TU) (htu : es.contains "TypeUnknown" = true) (F : ∀ c, es.contains c = true → ExcF prog K mg c (ad c) TU) (inj : ∀ c k, es.contains c = true → es.contains k = true → ad c = ad k → c = k)
    (hc : es.contains c = true) (hk : es.contains k = true) : PySem.W.subIn K (.ref (ad c)) (.ref (ad k)) = some (decide (c = k) || decide (k = "TypeUnknown")) := by
  rw [(F c hc).sub]
  congr 1
  unfold excMro
  have e1 : ∀ a b : Addr, (Value.ref a == Value.ref b) = decide (a = b) := fun a b => by
    by_cases h : a = b
    · subst h; simp
    · rw [decide_eq_false h]; simp [h]
  have e2 : decide (ad k = ad c) = decide (c = k) := by
    by_cases h : c = k
    · subst h; simp
    · rw [decide_eq_false h, decide_eq_false fun z => h (inj c k hc hk z.symm)]
  have e3 : decide (ad k = TU) = decide (k = "TypeUnknown") := by
    by_cases h : k = "TypeUnknown"
    · subst h; simp [hTU]
    · rw [decide_eq_false h, decide_eq_false fun z => h (inj k "TypeUnknown" hk htu (by rw [z, hTU]))]
  by_cases h : c = "TypeUnknown"
  · rw [if_pos h, List.contains_cons, veMro_ref, Bool.or_false, e1, e2]
    by_cases h2 : k = "TypeUnknown"
    · subst h h2; rfl
    · rw [decide_eq_false h2, Bool.or_false]
  · rw [if_neg h, List.contains_cons, List.contains_cons, veMro_ref, Bool.or_false, e1, e2, e1, e3]
theorem ExcF.one {ad : Str → Addr} {es : List Str} (hTU : ad "TypeUnknown" = TU) (htu : es.contains "TypeUnknown" = true) (F : ∀ c, es.contains c = true → ExcF prog K mg c (ad c) TU) (inj : ∀ c k, es.contains c = true → es.contains k = true → ad c = ad k → c = k)
    (hc : es.contains c = true) (hk : es.contains k = true) : PySem.W.kitOne K (.ref (ad c)) (.ref (ad k)) = some (decide (c = k) || decide (k = "TypeUnknown")) := by
  unfold PySem.W.kitOne
  by_cases h : ad c = ad k
  · have e := inj c k hc hk h
    subst e
    rw [if_pos (by simp)]
    simp
  · have n : (Value.ref (ad c) == Value.ref (ad k)) = false := by simp [h]
    rw [n, if_neg (by decide)]
    obtain ⟨h1, h2⟩ := (F k hk).cls
    show (if ((PySem.W.clsIn K (ad k)).isSome && PySem.W.typeIn K (.ref (ad k)) == some (.type "type")) = true then PySem.W.subIn K (.ref (ad c)) (.ref (ad k)) else none) = _
    rw [if_pos (by rw [h1, h2]; rfl)]
    exact ExcF.kit hTU htu F inj hc hk
theorem ExcF.exm {ad : Str → Addr} {es : List Str} (hTU : ad "TypeUnknown" = TU) (htu : es.contains "TypeUnknown" = true) (F : ∀ c, es.contains c = true → ExcF prog K mg c (ad c) TU) (inj : ∀ c k, es.contains c = true → es.contains k = true → ad c = ad k → c = k)
    (hc : es.contains c = true) : PySem.W.exmOne K (.ref (ad c)) (.ref TU) = some true := by
  have FT := F _ htu
  rw [hTU] at FT
  obtain ⟨h1, h2⟩ := FT.cls
  unfold PySem.W.exmOne
  rw [FT.sub, if_pos (by unfold excMro; split <;> rfl)]
  show (if ((PySem.W.clsIn K TU).isSome && PySem.W.typeIn K (.ref TU) == some (.type "type")) = true then PySem.W.subIn K (.ref (ad c)) (.ref TU) else none) = _
  rw [if_pos (by rw [h1, h2]; rfl)]
  have := ExcF.kit hTU htu F inj hc htu
  rw [hTU] at this
  rw [this]
  simp
/-- other things are no exceptions -/
theorem ExcF.none_of (F : ExcF prog K mg c C TU) {t : String} {l : List Value} (ht : fastBuiltinMro t = some l) (hl : ∀ a, l.contains (.ref a) = false) : PySem.W.kitOne K (.type t) (.ref C) = some false := by
  obtain ⟨h1, h2⟩ := F.cls
  unfold PySem.W.kitOne
  rw [show (Value.type t == Value.ref C) = false from rfl, if_neg (by decide)]
  show (if ((PySem.W.clsIn K C).isSome && PySem.W.typeIn K (.ref C) == some (.type "type")) = true then PySem.W.subIn K (.type t) (.ref C) else none) = _
  rw [if_pos (by rw [h1, h2]; rfl)]
  show (fastBuiltinMro t).map (·.contains (.ref C)) = _
  rw [ht]
  show some (l.contains _) = _
  rw [hl]
theorem kit_plain (F : ExcF prog K mg c C TU) {d : D} (h1 : ∀ ns, d ≠ .scr ns) (h2 : ∀ c x, d ≠ .exc c x) (h3 : ∀ c n v, d ≠ .ins c n v) : PySem.W.kitOne K (.type (tyT d)) (.ref C) = some false := by
  cases d with
  | non => exact F.none_of (l := [.type "NoneType", .type "object"]) (by kernel_rfl) (fun a => by simp)
  | int i => exact F.none_of (l := [.type "int", .type "object"]) (by kernel_rfl) (fun a => by simp)
  | str z => exact F.none_of (l := [.type "str", .type "object"]) (by kernel_rfl) (fun a => by simp)
  | tup xs => exact F.none_of (l := [.type "tuple", .type "object"]) (by kernel_rfl) (fun a => by simp)
  | lst xs => exact F.none_of (l := [.type "list", .type "object"]) (by kernel_rfl) (fun a => by simp)
  | dct ks vs => exact F.none_of (l := [.type "dict", .type "object"]) (by kernel_rfl) (fun a => by simp)
  | bl b => exact F.none_of (l := [.type "bool", .type "int", .type "object"]) (by kernel_rfl) (fun a => by simp)
  | scr ns => exact (h1 _ rfl).elim
  | exc c x => exact (h2 _ _ rfl).elim
  | ins c n v => exact (h3 _ _ _ rfl).elim
end

section
variable {X : Cx} {xi : XI} {W : WX} {lv : Nat} {es : List Str}
/-- C(e) -/
theorem snd_mk (c : CxOk X lv) (hl : 2 ≤ lv) (ok : ExcsOk X.prog X.K X.mg es) {nm : Nms} (n : NmOk X nm) {k : Str} {e : Expr} {ra : Env → Res Ar} {p pos : Pos} (hk : es.contains k = true) (hg : glB nm k = true) (hn : nameB k = true) (hp : plainX e = true) (ha : Snd X xi W e ra) :
    Snd X xi W (.Call (.Name k p) [e] [] pos) (fun env => (ra env).bind fun a env => (item a env).bind fun d env => .ok (.val (.d (.exc k d))) env) := by
  obtain ⟨TU, ad, hTU, htu, F, inj⟩ := ok.get hk
  obtain ⟨f, T, iC, tI⟩ := (F k hk).tu
  have hdb : (k == ("__debug__" : Str)) = false := by
    unfold nameB at hn
    simp only [Bool.and_eq_true, Bool.not_eq_true'] at hn
    exact hn.1.1
  have hs := starEach_plain (xs := []) (env := X.env) hp
  refine Snd.of_pe rfl (impE (pe_mk T iC tI (c.room.mono hl) ok.sup (n.gl _ hg) (F k hk).gl (pa_cons (snd_item ha.pe) pa_nil hs) hdb hs) fun σ H Q q => ?_)
  have q' : tG X.K X.w xi W RAr (fun env => ((ra env).bind item).bind fun d env => .ok (.val (.d (.exc k d))) env) σ H Q := tG_congr (fun env => by
    cases ra env <;> rfl) q
  refine bindF (R1 := RD X.K X.w) (R2 := RAr) q' fun Hf L d env1 v T2 Hf1 H1 L1 r1 sl st fam fin => ?_
  obtain ⟨dn, rfl⟩ := r1
  refine ⟨v, rfl, fun a d' na nd hne => ?_⟩
  rw [List.nil_append] at st fam
  obtain ⟨s1, f1⟩ := new_frz (o := .xd [("value", v)]) st.sub nd (fun _ z => by cases z) fam
  have na' : upd H1 d' (.xd [("value", v)]) a = none := by rw [upd_ne hne]; exact na
  obtain ⟨s2, f2⟩ := new_frz (o := ExV (ad k) d' a) s1.sub na' (fun _ z => by unfold ExV at z; cases z) f1
  refine fin_d (M := []) (d := .exc k d) fin sl ((st.tr s1).tr s2) f2 (.exc (F k hk).ns upd_same ?_ (dn.mono (s1.subf.trans s2.subf)))
  rw [upd_ne (Ne.symm hne), upd_same]
theorem View.exc' {K : PySem.W.Frag} {w : World} {Hf H : Hp} {c : Str} {x : D} {v : V} (h : View K w Hf H (.exc c x) v) (s : Same Hf H) : ∃ a C d u, v = .ref a ∧ PySem.W.nsIn K mainGlobals c = some (some (.ref C)) ∧ H a = some (ExV C d a) ∧ H d = some (.xd [("value", u)]) ∧ Den K w Hf x u := by
  cases h with
  | den h =>
    cases h with
    | exc n e d r => exact ⟨_, _, _, _, rfl, n, s _ _ e, s _ _ d, r⟩
/-- e.value -/
theorem snd_fldv (ok : ExcsOk X.prog X.K X.mg es) {e : Expr} {ra : Env → Res Ar} {pos : Pos} (hb : notSuper e = true) (ha : Snd X xi W e ra) :
    Snd X xi W (.Attribute e "value" pos) (fun env => (ra env).bind fun x env => match use env x with
      | some dx => Res.of ((valF es dx).map fun d => .val (.d d)) env
      | none => .bad) := by
  refine Snd.of_pe rfl (impE (pe_val (fun _ _ _ _ => trivial) ha.pe (by cases e <;> first | rfl | (rename_i f a b c; cases f <;> first | rfl | (cases a <;> first | rfl | (cases b <;> first | rfl | cases hb))))) fun σ H Q q => ?_)
  have q' : tG X.K X.w xi W RAr (fun env => (ra env).bind fun x env => match use env x with
      | some dx => Res.of (((valF es dx).map fun d => PyEv.W.d d).map Ar.val) env
      | none => .bad) σ H Q := tG_congr (fun env => by
    congr 1
    funext x e
    cases use e x with
    | none => rfl
    | some d => show Res.of ((valF es d).map _) e = Res.of (((valF es d).map _).map _) e; cases valF es d <;> rfl) q
  refine one1 (f := fun d => (valF es d).map fun d => PyEv.W.d d) (r := fun x H1 Q => ∃ (a C d : Addr) (fs : List (Str × V)) (v : V), x = .ref a ∧ XfC X.K C ∧ PySem.W.findIn X.K (.ref C) "value" = some none ∧ H1 a = some (ExV C d a) ∧ H1 d = some (.xd fs) ∧ fs.lookup ("value" : Str) = some v ∧ Q v H1) q' fun Hf L d y env v T Hf2 H2 L2 sl st fam vw ef fin => ?_
  cases d with
  | exc c x =>
    by_cases hc : es.contains c = true
    · have ef : (if es.contains c = true then some x else none).map (fun d => PyEv.W.d d) = some y := ef
      rw [if_pos hc] at ef
      obtain rfl := Option.some.inj ef
      obtain ⟨a, C, d, u, rfl, hn, ea, ed, dn⟩ := vw.exc' st.sub
      obtain ⟨TU, ad, hTU, htu, F, inj⟩ := ok.get hc
      have e1 := (F c hc).ns.symm.trans hn
      have e2 : ad c = C := by cases e1; rfl
      subst e2
      obtain ⟨f, T, _, _⟩ := (F c hc).tu
      exact ⟨a, _, d, _, u, rfl, (F c hc).xf, T.noV, ea, ed, rfl, fin_d fin sl st fam dn⟩
    · have ef : (if es.contains c = true then some x else none).map (fun d => PyEv.W.d d) = some y := ef
      rw [if_neg hc] at ef
      cases ef
  | _ => cases ef
/-- isinstance(e, ValueError) -/
theorem snd_isv (c : CxOk X lv) (ok : ExcsOk X.prog X.K X.mg es) {nm : Nms} (n : NmOk X nm) {x y : Str} {a : Expr} {ra : Env → Res Ar} {p p2 pos : Pos} (hx : Str.ofString "isinstance" = x) (hg : glB nm x = true) (hp : plainX a = true) (hy : Str.ofString "ValueError" = y) (hgk : glB nm y = true) (ha : Snd X xi W a ra) :
    Snd X xi W (.Call (.Name x p) [a, .Name y p2] [] pos) (fun env => (ra env).bind fun x env => match use env x with
      | some dx => Res.of ((isvF es dx).map fun b => .val (.d (.bl b))) env
      | none => .bad) := by
  subst hx hy
  have hs := starEach_plain (xs := [.Name (Str.ofString "ValueError") p2]) (env := X.env) hp
  have pk : PE X (.Name (Str.ofString "ValueError") p2) (tC (.ty "ValueError")) := pe_bltn (n.gl _ hgk) ok.ve (by decide +kernel) rfl (by decide) (by decide)
  have isg : CallR X (.builtin "isinstance") (fun xs H Q => rIsi X.K xs H Q ∨ rIsX X.K xs H Q) := by
    intro pins s σ H xs us Q I r h
    rcases h with h | h
    · exact call_isi pins s σ H xs us Q I r h
    · exact call_isX pins s σ H xs us Q I r h
  refine Snd.of_pe rfl (impE (pe_callB isg (n.gl _ hg) (c.blt "isinstance" (by decide)) (by decide +kernel) (pa_cons ha.pe (pa_cons pk pa_nil) hs) (by decide) (by decide) hs rfl) fun σ H Q q => ?_)
  have q' : tG X.K X.w xi W RAr (fun env => (ra env).bind fun x env => match use env x with
      | some dx => Res.of (((isvF es dx).map fun b => PyEv.W.d (.bl b)).map Ar.val) env
      | none => .bad) σ H Q := tG_congr (fun env => by
    congr 1
    funext x e
    cases use e x with
    | none => rfl
    | some d => show Res.of ((isvF es d).map _) e = Res.of (((isvF es d).map _).map _) e; cases isvF es d <;> rfl) q
  refine one1 (f := fun d => (isvF es d).map fun b => PyEv.W.d (.bl b)) (r := fun v H Q => rIsi X.K [v, .ty "ValueError"] H Q ∨ rIsX X.K [v, .ty "ValueError"] H Q) q' fun Hf L d y env v T Hf2 H2 L2 sl st fam vw ef fin => ?_
  have plain : isvF es d = some false → (∀ ns, d ≠ .scr ns) → (∀ c x, d ≠ .exc c x) → PySem.W.kitOne X.K (.type (tyT d)) (.type "ValueError") = some false → rIsi X.K [v, .ty "ValueError"] H2 Q ∨ rIsX X.K [v, .ty "ValueError"] H2 Q := fun e h1 h2 h3 => by
    rw [e] at ef
    obtain rfl := Option.some.inj ef
    exact .inl ⟨v, _, _, _, false, rfl, .ty _, vw.ty st.sub h1 h2, h3, fin_bl fin sl st fam⟩
  cases d with
  | exc c x =>
    by_cases hc : es.contains c = true
    · have ef : (if es.contains c = true then some true else none).map (fun b => PyEv.W.d (.bl b)) = some y := ef
      rw [if_pos hc] at ef
      obtain rfl := Option.some.inj ef
      obtain ⟨TU, ad, hTU, htu, F, inj⟩ := ok.get hc
      obtain ⟨a, C, d, u, rfl, hn, ea, ed, dn⟩ := vw.exc' st.sub
      have e1 := (F c hc).ns.symm.trans hn
      have e2 : ad c = C := by cases e1; rfl
      subst e2
      have kt : PySem.W.kitOne X.K (.ref (ad c)) (.type "ValueError") = some true := by
        unfold PySem.W.kitOne
        rw [show (Value.ref (ad c) == Value.type "ValueError") = false from rfl, if_neg (by decide)]
        show (if PySem.W.kitMeta "ValueError" = true then PySem.W.subIn X.K (.ref (ad c)) (.type "ValueError") else none) = _
        rw [if_pos (by decide +kernel), (F c hc).sub]
        unfold excMro
        split <;> rfl
      exact .inr ⟨a, _, d, _, _, _, _, rfl, (F c hc).ex, ea, ed, .ty _, kt, fin_bl fin sl st fam⟩
    · have ef : (if es.contains c = true then some true else none).map (fun b => PyEv.W.d (.bl b)) = some y := ef
      rw [if_neg hc] at ef
      cases ef
  | scr ns => cases ef
  | ins c n v => cases ef
  | non => exact plain rfl (fun _ z => nomatch z) (fun _ _ z => nomatch z) (kit_ty (by kernel_rfl))
  | bl b => exact plain rfl (fun _ z => nomatch z) (fun _ _ z => nomatch z) (kit_ty (by kernel_rfl))
  | int b => exact plain rfl (fun _ z => nomatch z) (fun _ _ z => nomatch z) (kit_ty (by kernel_rfl))
  | str b => exact plain rfl (fun _ z => nomatch z) (fun _ _ z => nomatch z) (kit_ty (by kernel_rfl))
  | tup b => exact plain rfl (fun _ z => nomatch z) (fun _ _ z => nomatch z) (kit_ty (by kernel_rfl))
  | lst b => exact plain rfl (fun _ z => nomatch z) (fun _ _ z => nomatch z) (kit_ty (by kernel_rfl))
  | dct a b => exact plain rfl (fun _ z => nomatch z) (fun _ _ z => nomatch z) (kit_ty (by kernel_rfl))
/-- isinstance(e, an error of the package) -/
theorem snd_isx (c : CxOk X lv) (ok : ExcsOk X.prog X.K X.mg es) {nm : Nms} (n : NmOk X nm) {x k : Str} {a : Expr} {ra : Env → Res Ar} {p p2 pos : Pos} (hk : es.contains k = true) (hx : Str.ofString "isinstance" = x) (hg : glB nm x = true) (hp : plainX a = true) (hgk : glB nm k = true) (hn : nameB k = true) (ha : Snd X xi W a ra) :
    Snd X xi W (.Call (.Name x p) [a, .Name k p2] [] pos) (fun env => (ra env).bind fun x env => match use env x with
      | some dx => Res.of ((isxF es k dx).map fun b => .val (.d (.bl b))) env
      | none => .bad) := by
  subst hx
  obtain ⟨TU, ad, hTU, htu, F, inj⟩ := ok.get hk
  have hs := starEach_plain (xs := [.Name k p2]) (env := X.env) hp
  unfold nameB at hn
  simp only [Bool.and_eq_true, Bool.not_eq_true'] at hn
  have pk : PE X (.Name k p2) (tC (.ref (ad k))) := pe_glob (n.gl _ hgk) (F k hk).gl rfl hn.1.1
  have isg : CallR X (.builtin "isinstance") (fun xs H Q => rIsi X.K xs H Q ∨ rIsX X.K xs H Q) := by
    intro pins s σ H xs us Q I r h
    rcases h with h | h
    · exact call_isi pins s σ H xs us Q I r h
    · exact call_isX pins s σ H xs us Q I r h
  refine Snd.of_pe rfl (impE (pe_callB isg (n.gl _ hg) (c.blt "isinstance" (by decide)) (by decide +kernel) (pa_cons ha.pe (pa_cons pk pa_nil) hs) (by decide) (by decide) hs rfl) fun σ H Q q => ?_)
  have q' : tG X.K X.w xi W RAr (fun env => (ra env).bind fun x env => match use env x with
      | some dx => Res.of (((isxF es k dx).map fun b => PyEv.W.d (.bl b)).map Ar.val) env
      | none => .bad) σ H Q := tG_congr (fun env => by
    congr 1
    funext x e
    cases use e x with
    | none => rfl
    | some d => show Res.of ((isxF es k d).map _) e = Res.of (((isxF es k d).map _).map _) e; cases isxF es k d <;> rfl) q
  refine one1 (f := fun d => (isxF es k d).map fun b => PyEv.W.d (.bl b)) (r := fun v H Q => rIsi X.K [v, .ref (ad k)] H Q ∨ rIsX X.K [v, .ref (ad k)] H Q) q' fun Hf L d y env v T Hf2 H2 L2 sl st fam vw ef fin => ?_
  have plain : isxF es k d = some false → (∀ ns, d ≠ .scr ns) → (∀ c x, d ≠ .exc c x) → (∀ c n v, d ≠ .ins c n v) → rIsi X.K [v, .ref (ad k)] H2 Q ∨ rIsX X.K [v, .ref (ad k)] H2 Q := fun e h1 h2 h3 => by
    rw [e] at ef
    obtain rfl := Option.some.inj ef
    exact .inl ⟨v, _, _, _, false, rfl, .own _, vw.ty st.sub h1 h2, kit_plain (F k hk) h1 h2 h3, fin_bl fin sl st fam⟩
  cases d with
  | exc c x =>
    by_cases hc : es.contains c = true
    · have ef : (if es.contains c = true then some (decide (c = k) || decide (k = "TypeUnknown")) else none).map (fun b => PyEv.W.d (.bl b)) = some y := ef
      rw [if_pos hc] at ef
      obtain rfl := Option.some.inj ef
      obtain ⟨a, C, d, u, rfl, hn, ea, ed, dn⟩ := vw.exc' st.sub
      have e1 := (F c hc).ns.symm.trans hn
      have e2 : ad c = C := by cases e1; rfl
      subst e2
      exact .inr ⟨a, _, d, _, _, _, _, rfl, (F c hc).ex, ea, ed, .own _, ExcF.one hTU htu F inj hc hk, fin_bl fin sl st fam⟩
    · have ef : (if es.contains c = true then some (decide (c = k) || decide (k = "TypeUnknown")) else none).map (fun b => PyEv.W.d (.bl b)) = some y := ef
      rw [if_neg hc] at ef
      cases ef
  | scr ns => cases ef
  | ins c n v => cases ef
  | non => exact plain rfl (fun _ z => nomatch z) (fun _ _ z => nomatch z) (fun _ _ _ z => nomatch z)
  | bl b => exact plain rfl (fun _ z => nomatch z) (fun _ _ z => nomatch z) (fun _ _ _ z => nomatch z)
  | int b => exact plain rfl (fun _ z => nomatch z) (fun _ _ z => nomatch z) (fun _ _ _ z => nomatch z)
  | str b => exact plain rfl (fun _ z => nomatch z) (fun _ _ z => nomatch z) (fun _ _ _ z => nomatch z)
  | tup b => exact plain rfl (fun _ z => nomatch z) (fun _ _ z => nomatch z) (fun _ _ _ z => nomatch z)
  | lst b => exact plain rfl (fun _ z => nomatch z) (fun _ _ z => nomatch z) (fun _ _ _ z => nomatch z)
  | dct a b => exact plain rfl (fun _ z => nomatch z) (fun _ _ z => nomatch z) (fun _ _ _ z => nomatch z)
end
end PyEv

set_option maxRecDepth 100000
set_option maxHeartbeats 4000000
/-! PyX5: raise, and try: one statement / except TypeUnknown as n: m = n. -/
namespace PyEv
open PySem L2
variable [TabL]

section
variable {X : Cx} {W : WX} {lv : Nat} {es : List Str} {keep : List Nat}
def raiseR (k : Str) (r : Env → Res Ar) : Env → Fl := fun env => (r env).fl fun a env => (item a env).fl fun d env => .ex (.exc k d) env
/-- raise C(e) -/
theorem s_raise (c : CxOk X lv) (hl : 2 ≤ lv) (ok : ExcsOk X.prog X.K X.mg es) {nm : Nms} (n : NmOk X nm) (tk : Takes X W) {k : Str} {e : Expr} {ra : Env → Res Ar} {p p2 pos : Pos} (hk : es.contains k = true) (hg : glB nm k = true) (hn : nameB k = true) (hp : plainX e = true) (ha : Snd X (xiE X.K X.w) W e ra) :
    SndS X (xiE X.K X.w) W keep (.Raise (some (.Call (.Name k p) [e] [] p2)) none pos) (raiseR k ra) := by
  obtain ⟨TU, ad, hTU, htu, F, inj⟩ := ok.get hk
  obtain ⟨f, T, iC, tI⟩ := (F k hk).tu
  have hdb : (k == ("__debug__" : Str)) = false := by
    unfold nameB at hn
    simp only [Bool.and_eq_true, Bool.not_eq_true'] at hn
    exact hn.1.1
  have hs := starEach_plain (xs := []) (env := X.env) hp
  refine impS (ps_raise c.calm tk (pmk_tu T iC tI (c.room.mono hl) ok.sup (n.gl _ hg) (F k hk).gl (pa_cons (snd_item ha.pe) pa_nil hs) hdb hs)) fun Z σ H q => ?_
  have q' : tSG X.K X.w (xiE X.K X.w) W keep (fun env => ((ra env).bind item).fl fun d env => .ex (.exc k d) env) Z σ H := by
    obtain ⟨Hf, env, L, s0, fin⟩ := q
    refine ⟨Hf, env, L, s0, ?_⟩
    have e : (((ra env).bind item).fl fun d env => (.ex (.exc k d) env : Fl)) = raiseR k ra env := by
      unfold raiseR
      cases ra env <;> rfl
    show FinS X.K X.w (xiE X.K X.w) W keep σ Hf H L (((ra env).bind item).fl fun d env => (.ex (.exc k d) env : Fl)) Z
    rw [e]; exact fin
  show tG X.K X.w (xiE X.K X.w) W (RD X.K X.w) (fun env => (ra env).bind item) σ H fun v H1 => ∃ v', [v] = [v'] ∧ ∀ d, H1 d = none → W (.ref (ad k)) (some d) σ (upd H1 d (.xd [("value", v')]))
  refine bindS (R1 := RD X.K X.w) q' fun Hf L d env2 v T2 Hf2 H2 L2 r1 sl st fam fin => ?_
  obtain ⟨dn, rfl⟩ := r1
  refine ⟨v, rfl, fun d' nd => ?_⟩
  rw [List.nil_append] at st fam
  obtain ⟨s1, f1⟩ := new_frz (o := .xd [("value", v)]) st.sub nd (fun _ z => by cases z) fam
  exact fin σ _ _ L2 (.ref (ad k)) (some d') sl (st.tr s1) f1 (Kept.refl _) ⟨k, d, ad k, d', v, rfl, rfl, rfl, (F k hk).ns, upd_same, dn.mono s1.subf⟩
/-- what the suite m = n leaves -/
def tSuite (i j : Nat) : TS := fun D σ H => ∃ v, σ[i]? = some (some v) ∧ D.nx (σ.set j (some v)) H
theorem ps_suite {Y : Cx} {N : List Str} (hN : Y.N = N) (nd : N.Nodup) {i j : Nat} {n m : Str} {p1 p2 pos : Pos} (hi : N[i]? = some n) (hj : N[j]? = some m) (h1 : Y.env.scope.names.lookup n = some .local) (h2 : Y.env.scope.names.lookup m = some .local)
    (d1 : (n == ("__debug__" : Str)) = false) (d2 : (n == ("__classdict__" : Str)) = false) : PS Y (.Assign [.Name m p1] (.Name n p2) pos) (tSuite i j) := by
  subst hN
  refine impS (ps_set nd hj (.inl h2) (pe_var (i := i) hi (.inl h1) d1 d2) rfl (.inr h2)) fun Z σ H q => ?_
  obtain ⟨v, e, q⟩ := q
  exact ⟨v, e, q⟩
/-- the caught exception, kept in slot m -/
theorem catch_run {i j : Nat} {r : Env → Fl} {Z : Ends} {σ : St} {H : Hp} {TU : Addr} {PP : Prog} 
    (hx : ∀ c C, PP.excs.contains c = true → PySem.W.nsIn X.K mainGlobals c = some (some (.ref C)) → PySem.W.exmOne X.K (.ref C) (.ref TU) = some true)
    (q : tSG X.K X.w (xiE X.K X.w) W keep (fun env => catchF PP keep i j (r env)) Z σ H) : tSG X.K X.w (xiE X.K X.w) (wKeep X.K TU i (fun _ _ _ => tSuite i j) Z) keep r Z σ H := by
  obtain ⟨Hf, env, L, s0, fin⟩ := q
  refine ⟨Hf, env, L, s0, ?_⟩
  have fin : FinS X.K X.w (xiE X.K X.w) W keep σ Hf H L (catchF PP keep i j (r env)) Z := fin
  cases e : r env with
  | nx env2 => rw [e] at fin; exact fin
  | rt x env2 => rw [e] at fin; exact fin.elim
  | bk env2 => rw [e] at fin; exact fin.elim
  | ct env2 => rw [e] at fin; exact fin.elim
  | bad => rw [e] at fin; exact fin.elim
  | ex x env2 =>
    rw [e] at fin
    intro σ' Hg H' L' cls dd sl st fam kp xi
    obtain ⟨c, y, C, d, v, rfl, rfl, rfl, hn, hd, dn⟩ := xi
    have fin : FinS X.K X.w (xiE X.K X.w) W keep σ Hf H L (if PP.excs.contains c = true ∧ i ≠ j ∧ keep.contains i = false ∧ i < env2.length then nxO ((store keep j (.d (.exc c y)) env2).map fun env => env.set i none) else .bad) Z := fin
    by_cases hij : PP.excs.contains c = true ∧ i ≠ j ∧ keep.contains i = false ∧ i < env2.length
    · rw [if_pos hij] at fin
      obtain ⟨hc, h1, h2, h3⟩ := hij
      refine ⟨C, d, rfl, rfl, hx c C hc hn, fun a na => ?_⟩
      cases es : store keep j (.d (.exc c y)) env2 with
      | none => rw [es] at fin; exact fin.elim
      | some env3 =>
        rw [es] at fin
        obtain ⟨hk, hj, rfl⟩ := store_len es
        have li : i < σ'.length := by rw [← sl.length]; exact h3
        refine ⟨.ref a, by simp [li], ?_⟩
        obtain ⟨s1, f1⟩ := new_frz (o := ExV C d a) st.sub na (fun _ z => by unfold ExV at z; cases z) fam
        have dx : Den X.K X.w (upd Hg a (ExV C d a)) (.exc c y) (.ref a) := .exc hn upd_same (s1.subf _ _ hd) (dn.mono s1.subf)
        obtain ⟨L2, a1, a2, a3⟩ := sl.put2 (T := []) (x := .d (.exc c y)) (v := .ref a) hj ((st.tr s1).less fun b q => by
          rcases Owned.cons.mp q with q | q
          · cases q
          · exact q) (f1.cons_d dx)
        obtain ⟨L3, b1, b2⟩ := a1.drop i
        have b3 := b1.any i none
        have eσ : ((σ'.set i (some (V.ref a))).set j (some (V.ref a))).set i none = (σ'.set j (some (V.ref a))).set i none := by
          rw [List.set_comm _ _ h1, List.set_set]
        show Z.nx (((σ'.set i (some (V.ref a))).set j (some (V.ref a))).set i none) (upd H' a (ExV C d a))
        rw [eσ]
        rw [List.nil_append] at a2 a3
        refine fin _ _ _ L3 b3 (a2.less fun b ⟨p, hp, q⟩ => ⟨p, b2.mem hp, q⟩) (a3.sub b2) (kp.trans fun k hkk => ?_)
        have ni : i ≠ k := fun z => by
          subst z
          have : keep.contains i = true := List.contains_iff_mem.mpr hkk
          rw [h2] at this; cases this
        rw [List.getElem?_set_ne ni, List.getElem?_set_ne (ne_keep hk hkk)]
    · rw [if_neg hij] at fin; exact fin.elim
theorem exm_all {PP : Prog} {TU : Addr} {ad : Str → Addr} (hTU : ad "TypeUnknown" = TU) (htu : PP.excs.contains "TypeUnknown" = true) (F : ∀ c, PP.excs.contains c = true → ExcF X.prog X.K X.mg c (ad c) TU) (inj : ∀ c k, PP.excs.contains c = true → PP.excs.contains k = true → ad c = ad k → c = k) :
    ∀ c C, PP.excs.contains c = true → PySem.W.nsIn X.K mainGlobals c = some (some (.ref C)) → PySem.W.exmOne X.K (.ref C) (.ref TU) = some true := fun c C hc hn => by
  have e1 := (F c hc).ns.symm.trans hn
  have e2 : ad c = C := by cases e1; rfl
  subst e2
  exact ExcF.exm hTU htu F inj hc
/-- try: st / except TypeUnknown as n: m = n -/
theorem s_try {PP : Prog} (c : CxOk X lv) (ok : ExcsOk X.prog X.K X.mg PP.excs) (htu : PP.excs.contains "TypeUnknown" = true) {nm : Nms} (n : NmOk X nm) {N : List Str} (hN : X.N = N) (hst : X.stack = X.env :: X.outer) (hfr : X.env.frame = some X.env.locals) (hex : X.ex = [])
    {i j : Nat} {y z x : Str} {st : Stmt} {np q1 q2 q3 pos' pos : Pos} {r : Env → Fl} (hx : x = "TypeUnknown") (hg : glB nm x = true) (hi : N[i]? = some y) (hj : N[j]? = some z) (hy : X.env.scope.names.lookup y = some .local) (hz : X.env.scope.names.lookup z = some .local) (hd : nameB y = true)
    (hb : ∀ (W' : WX) (pn : List (Addr × Obj)) (xe : Value → Shared → Prop), Takes (X.tr pn xe) W' → PassesOwn (model X.prog X.w) X.A X.env xe → SndS (X.tr pn xe) (xiE X.K X.w) W' keep st r) :
    SndS X (xiE X.K X.w) W keep (.Try [st] [.ExceptHandler (some (.Name x np)) (some y) [.Assign [.Name z q1] (.Name y q2) q3] pos'] [] [] pos) (fun env => catchF PP keep i j (r env)) := by
  subst hx hN
  obtain ⟨TU, ad, hTU, htu, F, inj⟩ := ok.get htu
  have FT := F _ htu
  rw [hTU] at FT
  unfold nameB at hd
  simp only [Bool.and_eq_true, Bool.not_eq_true'] at hd
  refine impS (ps_try_keep (B := TU) (i := i) (tb := fun W' => tSG X.K X.w (xiE X.K X.w) W' keep r) (ts := fun _ _ _ => tSuite i j) hst hfr hex c.nd hi hy (n.gl _ hg) FT.gl (by decide)
    (fun W' pn xe tk ps => ?_) (fun a oe cls d pn _ _ => pss_one (ps_suite (Y := X.suite a ((a, oe) :: pn)) rfl c.nd hi hj hy hz hd.1.1 hd.1.2))) fun Z σ H q => catch_run (exm_all hTU htu F inj) q
  exact pss_one (hb W' pn xe tk ps)
end
end PyEv

set_option maxRecDepth 100000
set_option maxHeartbeats 4000000
/-! PyL1: a def that calls what it got and hears what it raises. -/
namespace PyEv
open PySem L2
variable [TabL]

/-- what the hearing def makes of what it calls -/
def tHear (K : PySem.W.Frag) (TU : Addr) (tl : XK → Hp → VK → Prop) (H : Hp) (Q : VK) : Prop := 1 + 1 ≤ sizeLine ∧ ∀ p0, H p0 = none →
  tl (fun cls d H' => ∃ C dd : Addr, cls = .ref C ∧ d = some dd ∧ PySem.W.exmOne K (.ref C) (.ref TU) = some true ∧ ∀ a, H' a = none → ∀ p, upd H' a (ExV C dd a) p = none → Q (.ref p) (upd (upd H' a (ExV C dd a)) p (.tup [.ref a, .non])))
    (upd H p0 (.tup [.non, .non])) fun v H' => ∀ p, H' p = none → Q (.ref p) (upd H' p (.tup [.non, v]))

section
variable {X : Cx}
theorem hear_body {l c b e t : Str} {TU f : Addr} {R : Hp → Prop} {tl : XK → Hp → VK → Prop} {q1 q2 q3 q4 q5 p1 p2 p3 p4 p5 p6 p7 p8 p9 r1 r2 r3 r4 r5 r6 r7 : Pos} {k1 k2 k3 j1 j2} (hcalm : X.calm = true) (hst : X.stack = X.env :: X.outer) (hfr : X.env.frame = some X.env.locals) (hex : X.ex = []) (hk : X.env.scope.kind = .function)
    (hN : X.N = [l, c, b, e]) (nd : X.N.Nodup) (hc : X.env.scope.names.lookup c = some .local) (hb : X.env.scope.names.lookup b = some .local) (he : X.env.scope.names.lookup e = some .local) (hg : Gl X t) (hm : X.mg t = some (.ref TU)) (ht : (t == ("__debug__" : Str)) = false)
    (ec : nameB c = true) (eb : nameB b = true) (ee : nameB e = true) 
    (pcall : ∀ (W : WX) (pn : List (Addr × Obj)) (xe : Value → Shared → Prop), Takes (X.tr pn xe) W → PE (X.tr pn xe) (.Call (.Name l p2) [] [] p3) (fun σ H Q => σ[0]? = some (some (.ref f)) ∧ R H ∧ tl (WE W σ) H Q))
    (mono : ∀ E E' H Q Q', (∀ cls d H', E cls d H' → E' cls d H') → (∀ v H', Q v H' → Q' v H') → tl E H Q → tl E' H Q') :
    ∃ tt, PSs X [.Assign [.Tuple [.Name c q1, .Name b q2] k1 q3] (.Tuple [.Constant .none j1 r1, .Constant .none j2 r2] k2 q4) q5,
      .Try [.Assign [.Name b p1] (.Call (.Name l p2) [] [] p3) p4] [.ExceptHandler (some (.Name t p5)) (some e) [.Assign [.Name c p6] (.Name e p7) p8] p9] [] [] r3, .Return (some (.Tuple [.Name c r5, .Name b r6] k3 r7)) r4] tt ∧
      ∀ H Q, (∀ p0, H p0 = none → R (upd H p0 (.tup [.non, .non]))) → tHear X.K TU tl H Q → tt { nx := fun _ H' => Q .non H', rt := Q } [some (.ref f), none, none, none] H := by
  have n1 : X.N[1]? = some c := by rw [hN]; rfl
  have n2 : X.N[2]? = some b := by rw [hN]; rfl
  have n3 : X.N[3]? = some e := by rw [hN]; rfl
  have d : ∀ {x : Str}, nameB x = true → (x == ("__debug__" : Str)) = false ∧ (x == ("__classdict__" : Str)) = false := fun {x} h => by
    unfold nameB at h
    simp only [Bool.and_eq_true, Bool.not_eq_true'] at h
    exact h.1
  refine ⟨_, pss_cons (ps_asg (X := X) (pe_tup (pa_cons pe_non (pa_cons pe_non pa_nil))) (pg_tup hcalm (pgs_cons (pg_name nd n1 (.inl hc) (.inr hc)) (pgs_cons (pg_name nd n2 (.inl hb) (.inr hb)) pgs_nil))) rfl (swapNo (.inr (.inr rfl)) rfl rfl))
    (pss_cons (ps_try_keep (X := X) (B := TU) (i := 3) (ts := fun _ _ _ => tSuite 3 1) hst hfr hex nd n3 he hg hm ht
      (tb := fun W => tAsg (fun σ H Q => σ[0]? = some (some (.ref f)) ∧ R H ∧ tl (WE W σ) H Q) (gName 2))
      (fun W pn xe tk _ => pss_one (ps_set (X := X.tr pn xe) nd n2 (.inl hb) (pcall W pn xe tk) rfl (.inr hb)))
      (fun a oe cls dd pn _ _ => pss_one (ps_suite (Y := X.suite a ((a, oe) :: pn)) rfl nd n3 n1 he hc (d ee).1 (d ee).2)))
    (pss_one (ps_ret (pe_tup (pa_cons (pe_var n1 (.inl hc) (d ec).1 (d ec).2) (pa_cons (pe_var n2 (.inl hb) (d eb).1 (d eb).2) pa_nil)))))), fun H Q hR h => ?_⟩
  obtain ⟨hz, h⟩ := h
  refine ⟨hz, fun p0 e0 => ⟨p0, [.non, .non], rfl, .of upd_same, rfl, .non, [.non], rfl, .non, [], rfl, rfl, rfl, hR p0 e0, mono _ _ _ _ _ (fun cls dd H' z => ?_) (fun v H' z => ?_) (h p0 e0)⟩⟩
  · obtain ⟨C, dx, e1, e2, e3, e4⟩ := z
    exact ⟨C, dx, e1, e2, e3, fun a na => ⟨.ref a, rfl, .ref a, rfl, .non, rfl, hz, fun p np => e4 a na p np⟩⟩
  · exact ⟨.non, rfl, v, rfl, hz, fun p np => z p np⟩
end
end PyEv

set_option maxRecDepth 100000
set_option maxHeartbeats 4000000
/-! PyL2: a lambda handed to a hearing def. -/
namespace PyEv
open PySem PySem.Spec PyProof.Rows L2
variable [TabL]

/-- the hearing def, entered at s from X -/
abbrev hCx (X : Cx) (N : List Str) (x : Str) (sc : Scope) (g : Addr) (cd : Value) (s : Shared) (H : Hp) : Cx := cxOf C8.CX0 X.prog X.w X.K X.mg X.base N x sc g cd X.A X.stack s H C8.E0
abbrev lq (X : Cx) : Str := X.env.qual ++ "<lambda>"
abbrev lObj (X : Cx) (ps : Arguments) (body : Expr) (scope : Scope) (pm : Value) (c : Addr) (ct : Value) : Obj := PySem.W.kla_obj "<lambda>" (lq X) ps body scope (cloFrom X.env.cells scope.names []) pm c ct
abbrev lBind (ps : Arguments) (body : Expr) (scope : Scope) : Prop := ∀ (q : Str) (cl : List (Str × Addr)) (pm cv ctv : Value), bindArgs (PySem.W.kla_fn "<lambda>" q ps body scope cl pm cv ctv) ⟨[], []⟩ = pure []

section
variable {X : Cx} {pins : List (Addr × Obj)} {σ : L2.St} {H : Hp} {s : Shared}
/-- l(), l the lambda that was handed over -/
theorem pe_look {N : List Str} {x l : Str} {sc scope : Scope} {g f c : Addr} {cd pm ct : Value} {ps : Arguments} {body : Expr} {k : Nat} {pn : List (Addr × Obj)} {xe : Value → Shared → Prop} {W : WX} {t : XK → TE} {p q : Pos}
    (I : Inv X pins σ H s) (S : LamX.LamS X.env.scope scope) (of0 : s.heap.get? f = some (lObj X ps body scope pm c ct)) (nf : H f = none) (ns : f ∉ frs X.stack) (bd : lBind ps body scope)
    (tk : Takes ((hCx X N x sc g cd s H).tr pn xe) W) (g0 : X.A.guards = some []) (rm : Room (k + 1) (X.A.deeper (envOfC x sc s.heap.objs.size g cd)))
    (hb : ∀ (A : Around) (outer : List PySem.Env) (s : Shared) (H : Hp) (E : XK), A.guards = some [] → Room k (A.deeper (LamX.lamEnv X scope s.heap.objs.size f c)) → PE (LamX.lamCx X A outer s H E scope f c) body (t E))
    (n0 : N[0]? = some l) (vs : Vis sc l) (d1 : (l == ("__debug__" : Str)) = false) (d2 : (l == ("__classdict__" : Str)) = false) :
    PE ((hCx X N x sc g cd s H).tr pn xe) (.Call (.Name l p) [] [] q) (fun τ J Q => τ[0]? = some (some (.ref f)) ∧ J c = some (LamX.CodeO c (lq X)) ∧ t (WE W τ) σ J Q) := by
  refine ⟨fun pz z τ J Q Iz ⟨h0, hc, ht⟩ => ?_⟩
  refine wpAny_Call_Name_kw (thn ((pe_var (pos := p) (i := 0) n0 vs d1 d2).run pz z τ J (fun v J1 => v = .ref f ∧ J1 = J) Iz ⟨.ref f, h0, rfl, rfl⟩) fun u z1 ⟨v, J1, I1, r1, q1⟩ => ?_)
  obtain ⟨rfl, rfl⟩ := q1
  obtain rfl : u = Value.ref f := r1
  have of1 : z1.heap.get? f = some (lObj X ps body scope pm c ct) := I1.base.keep f _ of0 nf ns fun y => nomatch (show f ∈ ([] : List Addr) from y)
  refine PySem.W.callWith_F0 (by exact ⟨_, _, _, _, of1⟩) ?_
  have ub : Un (frs X.stack) [] H J1 s.heap z1.heap := I1.base
  obtain ⟨⟨oc, vv, tt, k1, k2, k3⟩, _, _⟩ := I1.hok c _ hc
  have run : codeAny (model X.prog X.w) (X.A.deeper (envOfC x sc s.heap.objs.size g cd)) (.call (.ref f) ⟨[], []⟩) (CR (L2.CX X.prog X.w) (envOfC x sc s.heap.objs.size g cd :: X.stack) X.prog X.w J1 z1 Q (WE W τ)) z1 := by
    refine PySem.W.kla_callFunE rm.depth of1 rfl S.co S.gen rfl (by exact ⟨c, oc, vv, tt, rfl, k1, k2, k3⟩) ?_
    rw [bd]
    refine wpAny_pure (wpAny_newFunctionEnv (fun y hy => (S.own y hy).2) (fun y hy => absurd hy (by simp)) (fun h1 hns hsb => by
      refine ⟨I1.nolimit.fresh _ hsb, ?_⟩
      show codeAny _ _ (.expr body (LamX.lamEnv X scope z1.heap.objs.size f c)) _ _
      have kp : ∀ b o, z1.heap.get? b = some o → h1.get? b = some o := fun b o e => hsb.extBut b o (Nat.ne_of_lt (Heap.lt_size e)) (Heap.get?_push_of_some _ e)
      have Jn : Inv (LamX.lamCx X (X.A.deeper (envOfC x sc s.heap.objs.size g cd)) (envOfC x sc s.heap.objs.size g cd :: X.stack) z1 J1 (WE W τ) scope f c) [] σ J1 { z1 with heap := h1, toks := z1.toks + ([] : List (Str × Value)).length } :=
        LamX.lam_start2 I S I1.env0 rm.hd ub hns kp
      refine PySem.W.kla_codeExpr (wpAny_mono ((hb (X.A.deeper (envOfC x sc s.heap.objs.size g cd)) _ z1 J1 (WE W τ) g0 (rm.deeper _)).run [] _ _ J1 Q Jn ht) (fun v s' hq => ?_) fun e s' hq => hq)
      obtain ⟨w', H', Jx, rv, hq⟩ := hq
      exact ⟨w', H', Jx.os, Jx.bare, Jx.base, Jx.hok, rv, hq⟩) S.kind)
  refine wpAny_call (codeAny_mono run fun r s' hq => ?_)
  cases r with
  | error e => exact passAt tk τ pz J1 z1 e s' I1 hq
  | ok fl =>
    cases fl with
    | ret u => exact I1.after hq
    | next => exact False.elim hq
    | brk => exact False.elim hq
    | cont => exact False.elim hq

/-- the body of a hearing def -/
def hearB (nm : Nms) : List Stmt → List Str → Bool
  | [.Assign [.Tuple [.Name c _, .Name b _] _ _] (.Tuple [.Constant .none _ _, .Constant .none _ _] _ _) _, .Try [.Assign [.Name b1 _] (.Call (.Name l _) [] [] _) _] [.ExceptHandler (some (.Name t _)) (some e) [.Assign [.Name c1 _] (.Name e1 _) _] _] [] [] _, .Return (some (.Tuple [.Name c2 _, .Name b2 _] _ _)) _], N =>
    decide (N = [l, c, b, e]) && decide (b1 = b) && decide (c1 = c) && decide (e1 = e) && decide (c2 = c) && decide (b2 = b) && decide (t = "TypeUnknown") && glB nm t && visB nm l && decide (nm.lookup c = some .local) && decide (nm.lookup b = some .local) && decide (nm.lookup e = some .local) && nameB c && nameB b && nameB e && nameB l
  | _, _ => false
/-- x is a def that hears -/
structure HearOk (K : PySem.W.Frag) (mg : Str → Option Value) (x : Str) : Prop where
  ex : ∃ g fd st l N, mg x = some (.ref g) ∧ L2.Fun K x x st g fd ∧ Binds K fd [l] [] ∧ FnScope N [l] (defScope st) ∧ N[0]? = some l ∧ hearB (defScope st).names (defBody st) N = true

/-- x(lambda: body), x a hearing def -/
theorem pe_heard {x : Str} {TU c P : Addr} {k : Nat} {ps : Arguments} {body : Expr} {scope : Scope} {t : XK → TE} {p lp pos : Pos} (h : HearOk X.K X.mg x) (gx : Gl X x) (gt : X.mg "TypeUnknown" = some (.ref TU)) (g0 : X.A.guards = some []) (rm : Room (k + 2) X.A)
    (TB : LamX.TabB X.base X.mg c P) (hcode : X.env.code = .ref c) (hm : (P, lq X) ∈ TabL.T) (hu : ∀ p ∈ TabL.T, p.1 = P → p.2 = lq X) (S : LamX.LamS X.env.scope scope) (df : defaultsOf ps X.env = ([], [])) (bd : lBind ps body scope)
    (hb : ∀ (A : Around) (outer : List PySem.Env) (s : Shared) (H : Hp) (E : XK) (f c : Addr), A.guards = some [] → Room k (A.deeper (LamX.lamEnv X scope s.heap.objs.size f c)) → PE (LamX.lamCx X A outer s H E scope f c) body (t E))
    (mono : ∀ E E' σ H Q Q', (∀ cls d H', E cls d H' → E' cls d H') → (∀ v H', Q v H' → Q' v H') → t E σ H Q → t E' σ H Q') (hx : (x == ("__debug__" : Str)) = false) :
    PE X (.Call (.Name x p) [.Lambda ps body scope lp] [] pos) (fun σ H Q => LamX.Tabs TabL.T H ∧ ∀ H1, LamX.ExtN H H1 → LamX.Tabs TabL.T H1 → tHear X.K TU (fun E H' Q' => t E σ H' Q') H1 Q) := by
  obtain ⟨g, fd, st, l, N, hg, F, hbind, FS, n0, hB⟩ := h.ex
  refine ⟨fun pins s σ H Q I ⟨hT, h⟩ => ?_⟩
  refine wpAny_Call_Name_kw (ld_glob I gx hg ?_ hx)
  refine PySem.W.callWith_K (h₀ := X.base) I.ok.mod.kin F.kp ?_ (by rfl) (by rfl)
  show wpAny _ _ (spliced ((false, eval (.Lambda ps body scope lp) X.env) :: backTo pos (starEach [] X.env))) _ _ s
  refine Calls.spliced_cons (LamX.lam_make2 I TB hcode hm hu hT df (S.has I.ok) fun f c' pm ct H1 s1 I1 eN T1 of1 nf1 ns1 hco => ?_)
  refine Calls.spliced_nil ⟨I1.kIn, ?_⟩
  obtain ⟨oc, od, kV, doc, pm2, an, cdv, ct2, osl, rfl, lk, hcd⟩ := F.ex
  have rc : codeAny (model X.prog X.w) X.A (.call (.ref g) ⟨[.ref f], []⟩) (CR C8.CX0 X.stack X.prog X.w H1 s1 Q C8.E0) s1 := by
    refine LamX.run_ofS (N := N) (ps := [l]) (us := [.ref f]) (vs := [.ref f]) lk hcd FS rm I1.env0 (hbind s1 [.ref f] I1.kIn rfl) (.cons rfl .nil) rfl fun rm2 => ?_
    unfold hearB at hB
    split at hB
    · rename_i c1 q1 b1 q2 k1 q3 j1 q4 j2 q5 k2 q6 q7 b2 q8 l1 q9 q10 q11 t1 q12 e1 c2 q13 e2 q14 q15 q16 q17 c3 q18 b3 q19 k3 q20 q21 N' heq
      simp only [Bool.and_eq_true, decide_eq_true_eq] at hB
      obtain ⟨⟨⟨⟨⟨⟨⟨⟨⟨⟨⟨⟨⟨⟨⟨rfl, rfl⟩, rfl⟩, rfl⟩, rfl⟩, rfl⟩, et⟩, h2⟩, h3⟩, h4⟩, h5⟩, h6⟩, h7⟩, h8⟩, h9⟩, h10⟩ := hB
      have el : q9 = l := by simpa using n0
      subst el
      subst et
      rw [heq]
      have nb : ∀ {y : Str}, nameB y = true → (y == ("__debug__" : Str)) = false ∧ (y == ("__classdict__" : Str)) = false := fun {y} h => by
        unfold nameB at h
        simp only [Bool.and_eq_true, Bool.not_eq_true'] at h
        exact h.1
      obtain ⟨tt, s1', s2'⟩ := hear_body (X := cxOf C8.CX0 X.prog X.w X.K X.mg X.base [q9, q18, q19, q14] x (defScope st) g cdv X.A X.stack s1 H1 C8.E0) (TU := TU) (f := f) (R := fun J => J c' = some (LamX.CodeO c' (lq X))) (tl := fun E J Q => t E σ J Q)
        rfl rfl rfl rfl FS.kind rfl FS.nd h4 h5 h6 (by
          unfold glB at h2
          split at h2
          · rename_i q; exact q
          · cases h2) gt rfl h7 h8 h9
        (fun W pn xe tk => pe_look I1 S of1 nf1 ns1 bd tk g0 rm2 (fun A outer s H E => hb A outer s H E f c') rfl (by
          unfold visB at h3
          split at h3
          · rename_i q; exact .inl q
          · rename_i q; exact .inr (.inl q)
          · rename_i q; exact .inr (.inr q)
          · cases h3) (nb h10).1 (nb h10).2)
        (fun E E' J Q Q' a b z => mono E E' σ J Q Q' a b z)
      exact ⟨tt, s1', s2' H1 Q (fun p0 e0 => by rw [upd_ne (ne_of_none hco e0)]; exact hco) (h H1 eN T1)⟩
    · cases hB
  refine wpAny_call (codeAny_mono rc fun r s2 hq => ?_)
  cases r with
  | error e => exact (show False from hq).elim
  | ok fl =>
    cases fl with
    | ret u => exact I1.after hq
    | next => exact False.elim hq
    | brk => exact False.elim hq
    | cont => exact False.elim hq
end
end PyEv

set_option maxRecDepth 100000
set_option maxHeartbeats 4000000
/-! PyL3: x(lambda: e) is sound. -/
namespace PyEv
open PySem L2
variable [TabL]

theorem tG_mono {γ δ : Type} {K : PySem.W.Frag} {w : World} {xi : XI} {W W' : WX} {R : RR γ δ} {r : Env → Res γ} {σ : St} {H : Hp} {Q Q' : δ → Hp → Prop} (h1 : ∀ cls d σ H, W cls d σ H → W' cls d σ H) (h2 : ∀ v H, Q v H → Q' v H) (q : tG K w xi W R r σ H Q) : tG K w xi W' R r σ H Q' := by
  obtain ⟨Hf, env, L, s0, fin⟩ := q
  refine ⟨Hf, env, L, s0, ?_⟩
  cases e : r env with
  | bad => rw [e] at fin; exact fin
  | exc x env2 => rw [e] at fin; exact fun Hg H' L' cls dd a b c d => h1 _ _ _ _ (fin Hg H' L' cls dd a b c d)
  | ok x env2 => rw [e] at fin; exact fun v T Hg H' L' a b c d => h2 _ _ (fin v T Hg H' L' a b c d)

section
variable {X : Cx} {W : WX}
theorem snd_heard {PP : Prog} {x : Str} {c P : Addr} {k : Nat} {ps : Arguments} {body : Expr} {scope : Scope} {re : Env → Res D} {p lp pos : Pos} (ok : ExcsOk X.prog X.K X.mg PP.excs) (htu : PP.excs.contains "TypeUnknown" = true) (h : HearOk X.K X.mg x) (gx : Gl X x) (g0 : X.A.guards = some []) (rm : Room (k + 2) X.A)
    (TB : LamX.TabB X.base X.mg c P) (hcode : X.env.code = .ref c) (hm : (P, lq X) ∈ TabL.T) (hu : ∀ p ∈ TabL.T, p.1 = P → p.2 = lq X) (S : LamX.LamS X.env.scope scope) (df : defaultsOf ps X.env = ([], [])) (bd : lBind ps body scope)
    (hb : ∀ (A : Around) (outer : List PySem.Env) (s : Shared) (H : Hp) (E : XK) (f c : Addr), A.guards = some [] → Room k (A.deeper (LamX.lamEnv X scope s.heap.objs.size f c)) → PE (LamX.lamCx X A outer s H E scope f c) body (tG X.K X.w (xiE X.K X.w) (fun cls d _ H => E cls d H) (RD X.K X.w) re)) (hx : (x == ("__debug__" : Str)) = false) :
    Snd X (xiE X.K X.w) W (.Call (.Name x p) [.Lambda ps body scope lp] [] pos) (fun env => hearF PP.excs (re env)) := by
  obtain ⟨TU, ad, hTU, htu', F, inj⟩ := ok.get htu
  have FT := F _ htu
  rw [hTU] at FT
  refine Snd.of_pe rfl (impE (pe_heard (TU := TU) h gx FT.gl g0 rm TB hcode hm hu S df bd hb (fun E E' σ H Q Q' a b z => tG_mono (fun cls d _ H => a cls d H) b z) hx) fun σ H Q q => ?_)
  obtain ⟨Hf, env, L, s0, fin⟩ := q
  refine ⟨s0.fam.tabs, fun H1 eN T1 => ⟨by decide, fun p0 e0 => ?_⟩⟩
  have sub1 : Same Hf H1 := fun b o e => eN b o (s0.sub b o e) (s0.fam.nt b o e)
  have fam1 : Fam X.K X.w Hf H1 L := ⟨fun q hq => (s0.fam.rep q hq).mono (Same.refl _) (fun a _ o e n => eN a o e n) fun a ha => ((s0.fam.rep q hq).own ha).2.1, s0.fam.dj, T1, s0.fam.nt⟩
  have st1 : Step Hf H L Hf H1 L := ⟨Same.refl _, sub1, fun b o e n _ => eN b o e n, fun b h => .inl h, fun b o h => .inl h⟩
  obtain ⟨st2, fam2⟩ := new_frz (o := .tup [.non, .non]) sub1 e0 (fun _ z => by cases z) fam1
  refine ⟨_, env, L, ⟨s0.sl, fam2, st2.sub⟩, ?_⟩
  have fin : Fin X.K X.w (xiE X.K X.w) W RAr σ Hf H L (hearF PP.excs (re env)) Q := fin
  cases e : re env with
  | bad => rw [e] at fin; exact fin.elim
  | ok d env2 =>
    rw [e] at fin
    intro v T Hg H' L' r sl st fam pp np
    obtain ⟨dn, rfl⟩ := r
    exact fin_tup (M := []) fin sl ((st1.tr st2).tr st) fam (.cons .non (.cons dn .nil)) np
  | exc x env2 =>
    rw [e] at fin
    intro Hg H' L' cls dd sl st fam xi
    obtain ⟨c, y, C, d, v, rfl, rfl, rfl, hn, hd, dn⟩ := xi
    have fin : Fin X.K X.w (xiE X.K X.w) W RAr σ Hf H L (if PP.excs.contains c = true then .ok (.val (.d (.tup [.exc c y, .non]))) env2 else .bad) Q := fin
    by_cases hc : PP.excs.contains c = true
    · rw [if_pos hc] at fin
      refine ⟨C, d, rfl, rfl, exm_all hTU htu F inj c C hc hn, fun a na pp np => ?_⟩
      obtain ⟨s3, f3⟩ := new_frz (o := ExV C d a) st.sub na (fun _ z => by unfold ExV at z; cases z) fam
      have dx : Den X.K X.w (upd Hg a (ExV C d a)) (.exc c y) (.ref a) := .exc hn upd_same (s3.subf _ _ hd) (dn.mono s3.subf)
      exact fin_tup (M := []) fin sl (((st1.tr st2).tr st).tr s3) f3 (.cons dx (.cons .non .nil)) np
    · rw [if_neg hc] at fin; exact fin.elim
end
end PyEv

set_option maxRecDepth 100000
set_option maxHeartbeats 2000000
/-! PyM0: what okE says of the text. -/
namespace PyEv
open PySem L2
section
variable {N : List Str} {nm : Nms} {x : Expr}
theorem ok_mk {c : Str} {e : E} (h : okE (.mk c e) N nm x = true) : ∃ k p ex pos, x = .Call (.Name k p) [ex] [] pos ∧ (decide (c = k) && glB nm k && nameB k && okE e N nm ex) = true := by
  unfold okE at h
  split at h
  all_goals first | (cases h; done) | (rename_i heq; cases heq; done) | skip
  rename_i heq
  cases heq
  exact ⟨_, _, _, _, rfl, h⟩
theorem ok_fldv {e : E} (h : okE (.fldv e) N nm x = true) : ∃ v y pos, x = .Attribute v y pos ∧ (decide (Str.ofString "value" = y) && okE e N nm v && notSuper v) = true := by
  unfold okE at h
  split at h
  all_goals first | (cases h; done) | (rename_i heq; cases heq; done) | skip
  rename_i heq
  cases heq
  exact ⟨_, _, _, rfl, h⟩
theorem ok_isx {e : E} {c : Str} (h : okE (.isx e c) N nm x = true) : ∃ z p v y p2 pos, x = .Call (.Name z p) [v, .Name y p2] [] pos ∧ (decide (Str.ofString "isinstance" = z) && glB nm z && okE e N nm v && decide (c = y) && glB nm y && nameB y) = true := by
  unfold okE at h
  split at h
  all_goals first | (cases h; done) | (rename_i heq; cases heq; done) | skip
  rename_i heq
  cases heq
  exact ⟨_, _, _, _, _, _, rfl, h⟩
theorem ok_heard {hh : Str} {e : E} (h : okE (.heard hh e) N nm x = true) : ∃ y p ps body scope lp pos, x = .Call (.Name y p) [.Lambda ps body scope lp] [] pos ∧ (decide (hh = y) && glB nm y && nameB y && noArgs ps && lamB nm scope && unm nm && okE e N (("<lambda>", .globalExplicit) :: scope.names) body) = true := by
  unfold okE at h
  split at h
  all_goals first | (cases h; done) | (rename_i heq; cases heq; done) | skip
  rename_i heq
  cases heq
  exact ⟨_, _, _, _, _, _, _, rfl, h⟩
theorem ok_isv {e : E} (h : okE (.isv e) N nm x = true) : ∃ z p v y p2 pos, x = .Call (.Name z p) [v, .Name y p2] [] pos ∧ (decide (Str.ofString "isinstance" = z) && glB nm z && okE e N nm v && decide (Str.ofString "ValueError" = y) && glB nm y) = true := by
  unfold okE at h
  split at h
  all_goals first | (cases h; done) | (rename_i heq; cases heq; done) | skip
  rename_i heq
  cases heq
  exact ⟨_, _, _, _, _, _, rfl, h⟩
theorem ok_fstr {es : Es} (h : okE (.fstr es) N nm x = true) : ∃ l pos, x = .JoinedStr l pos ∧ (okJs es N nm l && decide (2 ≤ l.length)) = true := by
  unfold okE at h
  split at h
  all_goals first | (cases h; done) | (rename_i heq; cases heq; done) | skip
  rename_i heq
  cases heq
  exact ⟨_, _, rfl, h⟩
theorem ok_jnil {xs : List Expr} (h : okJs .nil N nm xs = true) : xs = [] := by
  unfold okJs at h
  split at h
  all_goals first | rfl | (cases h; done) | (rename_i heq; cases heq; done)
theorem ok_jcons {e : E} {es : Es} {xs : List Expr} (h : okJs (.cons e es) N nm xs = true) : (∃ v pos ys, xs = .FormattedValue v (-1) none pos :: ys ∧ okE e N nm v = true ∧ okJs es N nm ys = true) ∨ ∃ c j p ys, xs = .Constant c j p :: ys ∧ okE e N nm (.Constant c j p) = true ∧ okJs es N nm ys = true := by
  unfold okJs at h
  split at h
  · rename_i heq; cases heq
  · rename_i heq
    cases heq
    simp only [Bool.and_eq_true, decide_eq_true_eq] at h
    obtain ⟨⟨rfl, h2⟩, h3⟩ := h
    exact .inl ⟨_, _, _, rfl, h2, h3⟩
  · rename_i heq
    cases heq
    rw [Bool.and_eq_true] at h
    exact .inr ⟨_, _, _, _, rfl, h.1, h.2⟩
  · cases h
theorem ok_jstar {e : E} {es : Es} {xs : List Expr} (h : okJs (.star e es) N nm xs = true) : False := by
  unfold okJs at h
  cases h
theorem ok_var {i : Nat} (h : okE (.var i) N nm x = true) : ∃ x' pos, x = .Name x' pos ∧ (decide (N[i]? = some x') && visB nm x' && nameB x') = true := by
  unfold okE at h
  split at h
  all_goals first | (cases h; done) | (rename_i heq; cases heq; done) | skip
  rename_i heq
  cases heq
  exact ⟨_, _, rfl, h⟩
theorem ok_k {c : C} (h : okE (.k c) N nm x = true) : ∃ v j pos, x = .Constant v j pos ∧ (match (generalizing := false) c, v with | .non, .none => true | .bl b, .bool b' => b == b' | .int i, .int j => decide (i = j) | .str s, .str t => decide (s = t) | _, _ => false) = true := by
  unfold okE at h
  split at h
  all_goals first | (cases h; done) | (rename_i heq; cases heq; done) | skip
  rename_i heq
  cases heq
  exact ⟨_, _, _, rfl, h⟩
theorem ok_glob {g : Str} (h : okE (.glob g) N nm x = true) : ∃ y pos, x = .Name y pos ∧ (decide (g = y) && glB nm y && nameB y) = true := by
  unfold okE at h
  split at h
  all_goals first | (cases h; done) | (rename_i heq; cases heq; done) | skip
  rename_i heq
  cases heq
  exact ⟨_, _, rfl, h⟩
theorem ok_tup {es : Es} (h : okE (.tup es) N nm x = true) : ∃ l k pos, x = .Tuple l k pos ∧ okIts es N nm l = true := by
  unfold okE at h
  split at h
  all_goals first | (cases h; done) | (rename_i heq; cases heq; done) | skip
  rename_i heq
  cases heq
  exact ⟨_, _, _, rfl, h⟩
theorem ok_lst {es : Es} (h : okE (.lst es) N nm x = true) : ∃ l pos, x = .List l pos ∧ okIts es N nm l = true := by
  unfold okE at h
  split at h
  all_goals first | (cases h; done) | (rename_i heq; cases heq; done) | skip
  rename_i heq
  cases heq
  exact ⟨_, _, rfl, h⟩
theorem ok_dct {ks : List Str} {es : Es} (h : okE (.dct ks es) N nm x = true) : ∃ keys vals pos, x = .Dict keys vals pos ∧ (keysOk ks keys && okIts es N nm vals && decide (keys.length = vals.length) && decide (ks.length ≤ 15) && decide ks.Nodup && es.plain) = true := by
  unfold okE at h
  split at h
  all_goals first | (cases h; done) | (rename_i heq; cases heq; done) | skip
  rename_i heq
  cases heq
  exact ⟨_, _, _, rfl, h⟩
theorem ok_bin {o : Bo} {a b : E} (h : okE (.bin o a b) N nm x = true) : ∃ l op r pos, x = .BinOp l op r pos ∧ (boOk o op && okE a N nm l && okE b N nm r) = true := by
  unfold okE at h
  split at h
  all_goals first | (cases h; done) | (rename_i heq; cases heq; done) | skip
  rename_i heq
  cases heq
  exact ⟨_, _, _, _, rfl, h⟩
theorem ok_neg {a : E} (h : okE (.neg a) N nm x = true) : ∃ y pos, x = .UnaryOp .USub y pos ∧ okE a N nm y = true := by
  unfold okE at h
  split at h
  all_goals first | (cases h; done) | (rename_i heq; cases heq; done) | skip
  rename_i heq
  cases heq
  exact ⟨_, _, rfl, h⟩
theorem ok_cmp {o : Co} {a b : E} (h : okE (.cmp o a b) N nm x = true) : ∃ l op r pos, x = .Compare l [op] [r] pos ∧ (coOk o op && okE a N nm l && okE b N nm r && notSet r) = true := by
  unfold okE at h
  split at h
  all_goals first | (cases h; done) | (rename_i heq; cases heq; done) | skip
  rename_i heq
  cases heq
  exact ⟨_, _, _, _, rfl, h⟩
theorem ok_chain {o1 o2 : Co} {a b c : E} (h : okE (.chain o1 o2 a b c) N nm x = true) : ∃ l p q r t pos, x = .Compare l [p, q] [r, t] pos ∧ (coOk o1 p && coOk o2 q && okE a N nm l && okE b N nm r && okE c N nm t && notSet t) = true := by
  unfold okE at h
  split at h
  all_goals first | (cases h; done) | (rename_i heq; cases heq; done) | skip
  rename_i heq
  cases heq
  exact ⟨_, _, _, _, _, _, rfl, h⟩
theorem ok_and {a b : E} (h : okE (.and a b) N nm x = true) : ∃ v u rest pos, x = .BoolOp .And (v :: u :: rest) pos ∧ (okE a N nm v && okE b N nm (match (generalizing := false) rest with | [] => u | _ => .BoolOp .And (u :: rest) pos)) = true := by
  unfold okE at h
  split at h
  all_goals first | (cases h; done) | (rename_i heq; cases heq; done) | skip
  rename_i heq
  cases heq
  exact ⟨_, _, _, _, rfl, h⟩
theorem ok_or {a b : E} (h : okE (.or a b) N nm x = true) : ∃ v u rest pos, x = .BoolOp .Or (v :: u :: rest) pos ∧ (okE a N nm v && okE b N nm (match (generalizing := false) rest with | [] => u | _ => .BoolOp .Or (u :: rest) pos)) = true := by
  unfold okE at h
  split at h
  all_goals first | (cases h; done) | (rename_i heq; cases heq; done) | skip
  rename_i heq
  cases heq
  exact ⟨_, _, _, _, rfl, h⟩
theorem ok_not {a : E} (h : okE (.not a) N nm x = true) : ∃ y pos, x = .UnaryOp .Not y pos ∧ okE a N nm y = true := by
  unfold okE at h
  split at h
  all_goals first | (cases h; done) | (rename_i heq; cases heq; done) | skip
  rename_i heq
  cases heq
  exact ⟨_, _, rfl, h⟩
theorem ok_ifx {c a b : E} (h : okE (.ifx c a b) N nm x = true) : ∃ t y z pos, x = .IfExp t y z pos ∧ (okE c N nm t && okE a N nm y && okE b N nm z) = true := by
  unfold okE at h
  split at h
  all_goals first | (cases h; done) | (rename_i heq; cases heq; done) | skip
  rename_i heq
  cases heq
  exact ⟨_, _, _, _, rfl, h⟩
theorem ok_call {f : Str} {es : Es} (h : okE (.call f es) N nm x = true) : ∃ y p a as pos, x = .Call (.Name y p) (a :: as) [] pos ∧ (decide (f = y) && glB nm y && nameB y && okAs es N nm (a :: as)) = true := by
  unfold okE at h
  split at h
  all_goals first | (cases h; done) | (rename_i heq; cases heq; done) | skip
  rename_i heq
  cases heq
  exact ⟨_, _, _, _, _, rfl, h⟩
theorem ok_bi {f : Bi} {a : E} (h : okE (.bi f a) N nm x = true) : ∃ y p v pos, x = .Call (.Name y p) [v] [] pos ∧ (decide (Str.ofString (biName f) = y) && glB nm y && okE a N nm v) = true := by
  unfold okE at h
  split at h
  all_goals first | (cases h; done) | (rename_i heq; cases heq; done) | skip
  rename_i heq
  cases heq
  exact ⟨_, _, _, _, rfl, h⟩
theorem ok_mm {mx : Bool} {a b : E} (h : okE (.mm mx a b) N nm x = true) : ∃ y p v u pos, x = .Call (.Name y p) [v, u] [] pos ∧ (decide (Str.ofString (if mx = true then "max" else "min") = y) && glB nm y && okE a N nm v && okE b N nm u) = true := by
  unfold okE at h
  split at h
  all_goals first | (cases h; done) | (rename_i heq; cases heq; done) | skip
  rename_i heq
  cases heq
  exact ⟨_, _, _, _, _, rfl, h⟩
theorem ok_isi {a : E} {t : Ty} (h : okE (.isi a t) N nm x = true) : ∃ y p v z p2 pos, x = .Call (.Name y p) [v, .Name z p2] [] pos ∧ (decide (Str.ofString "isinstance" = y) && glB nm y && okE a N nm v && decide (Str.ofString (tyName t) = z) && glB nm z) = true := by
  unfold okE at h
  split at h
  all_goals first | (cases h; done) | (rename_i heq; cases heq; done) | skip
  rename_i heq
  cases heq
  exact ⟨_, _, _, _, _, _, rfl, h⟩
theorem ok_ix {a i : E} (h : okE (.ix a i) N nm x = true) : ∃ v s pos, x = .Subscript v s pos ∧ (okE a N nm v && okE i N nm s && notSl s) = true := by
  unfold okE at h
  split at h
  all_goals first | (cases h; done) | (rename_i heq; cases heq; done) | skip
  rename_i heq
  cases heq
  exact ⟨_, _, _, rfl, h⟩
theorem ok_slc {a lo hi : E} (h : okE (.slc a lo hi) N nm x = true) : ∃ v l h' p2 pos, x = .Subscript v (.Slice l h' none p2) pos ∧ (okE a N nm v && (match (generalizing := false) l with | none => lo.isNone | some x => !lo.isNone && okE lo N nm x) && (match (generalizing := false) h' with | none => hi.isNone | some x => !hi.isNone && okE hi N nm x)) = true := by
  unfold okE at h
  split at h
  all_goals first | (cases h; done) | (rename_i heq; cases heq; done) | skip
  rename_i heq
  cases heq
  exact ⟨_, _, _, _, _, rfl, h⟩
theorem ok_rev {a : E} (h : okE (.rev a) N nm x = true) : ∃ v i k p1 p2 p3 pos, x = .Subscript v (.Slice none none (some (.UnaryOp .USub (.Constant (.int i) k p1) p2)) p3) pos ∧ (decide (i = 1) && okE a N nm v) = true := by
  unfold okE at h
  split at h
  all_goals first | (cases h; done) | (rename_i heq; cases heq; done) | skip
  rename_i heq
  cases heq
  exact ⟨_, _, _, _, _, _, _, rfl, h⟩
theorem ok_bm {m : Bm} {o : E} {es : Es} (h : okE (.bm m o es) N nm x = true) : False := by
  unfold okE at h
  split at h
  all_goals first | (cases h; done) | (rename_i heq; cases heq; done) | (rw [Bool.false_and] at h; cases h) | (simp at h)
theorem ok_mut {m : Mm} {i : Nat} {es : Es} (h : okE (.mut m i es) N nm x = true) : ∃ y p z apos a as pos, x = .Call (.Attribute (.Name y p) z apos) (a :: as) [] pos ∧ (decide (Str.ofString (mmName m) = z) && decide (N[i]? = some y) && visB nm y && nameB y && okIts es N nm (a :: as) && decide (apos.endLine = pos.line) && decide ((a :: as).length < 20) && (a :: as).all plainX) = true := by
  unfold okE at h
  split at h
  all_goals first | (cases h; done) | (rename_i heq; cases heq; done) | skip
  rename_i heq
  cases heq
  exact ⟨_, _, _, _, _, _, _, rfl, h⟩
theorem ok_lc {elt : E} {tg : Tg} {it : It} {cond : E} {own : List (Str × Nat)} (h : okE (.lc elt tg it cond own) N nm x = true) : ∃ e t iter ifs ia scope pos, x = .ListComp e [⟨t, iter, ifs, ia⟩] scope pos ∧ ((decide (ia = 0) && unm nm) && blkC N { scope with names := nm } scope own && okE elt N scope.names e && tgOk N scope.names tg t && okIt it N nm iter && notSet iter &&
      (own.all fun p => decide (p.2 < N.length)) && (match (generalizing := false) ifs with | [] => cond.isNone | [c] => !cond.isNone && okE cond N scope.names c | _ => false) && (match (generalizing := false) it with | .zip .. => tgTup tg | .enum .. => tgTup tg | _ => true)) = true := by
  unfold okE at h
  split at h
  all_goals first | (cases h; done) | (rename_i heq; cases heq; done) | skip
  rename_i heq
  cases heq
  exact ⟨_, _, _, _, _, _, _, rfl, h⟩
theorem ok_listRange {a : E} (h : okE (.listRange a) N nm x = true) : ∃ y p z p2 v pos2 pos, x = .Call (.Name y p) [.Call (.Name z p2) [v] [] pos2] [] pos ∧ (decide (Str.ofString "list" = y) && glB nm y && decide (Str.ofString "range" = z) && glB nm z && okE a N nm v) = true := by
  unfold okE at h
  split at h
  all_goals first | (cases h; done) | (rename_i heq; cases heq; done) | skip
  rename_i heq
  cases heq
  exact ⟨_, _, _, _, _, _, _, rfl, h⟩
theorem ok_none  (h : okE E.none N nm x = true) : False := by
  cases x <;> simp [okE] at h
end
section
variable {N : List Str} {nm : Nms} {x : Expr} {xs : List Expr}
theorem ok_inil (h : okIts .nil N nm xs = true) : xs = [] := by
  cases xs with
  | nil => rfl
  | cons a as => cases h
theorem ok_icons {e : E} {es : Es} (h : okIts (.cons e es) N nm xs = true) : ∃ y ys, xs = y :: ys ∧ (okE e N nm y && okIts es N nm ys) = true := by
  cases xs with
  | nil => cases h
  | cons a as => exact ⟨a, as, rfl, by simpa only [okIts] using h⟩
theorem ok_istar {e : E} {es : Es} (h : okIts (.star e es) N nm xs = true) : ∃ y p ys, xs = .Starred y p :: ys ∧ (okE e N nm y && okIts es N nm ys) = true := by
  unfold okIts at h
  split at h
  all_goals first | (cases h; done) | (rename_i heq; cases heq; done) | skip
  rename_i heq
  cases heq
  exact ⟨_, _, _, rfl, h⟩
theorem ok_anil (h : okAs .nil N nm xs = true) : xs = [] := by
  cases xs with
  | nil => rfl
  | cons a as => cases h
theorem ok_acons {e : E} {es : Es} (h : okAs (.cons e es) N nm xs = true) : ∃ y ys, xs = y :: ys ∧ (okE e N nm y && okAs es N nm ys) = true := by
  cases xs with
  | nil => cases h
  | cons a as => exact ⟨a, as, rfl, by simpa only [okAs] using h⟩
theorem ok_astar {e : E} {es : Es} (h : okAs (.star e es) N nm xs = true) : False := by
  cases xs <;> cases h
theorem okAs_plain : ∀ {es : Es} {xs : List Expr}, okAs es N nm xs = true → ∀ z ∈ xs, plainX z = true
  | .nil, xs, h, z, hz => by rw [ok_anil h] at hz; cases hz
  | .cons e es, xs, h, z, hz => by
    obtain ⟨y, ys, e0, h1⟩ := ok_acons h
    rw [e0] at hz
    rw [Bool.and_eq_true] at h1
    rcases List.mem_cons.mp hz with e1 | hz
    · rw [e1]; exact okE_plain h1.1
    · exact okAs_plain h1.2 z hz
  | .star e es, xs, h, z, hz => (ok_astar h).elim
theorem ok_seq {e : E} (h : okIt (.seq e) N nm x = true) : okE e N nm x = true := by simpa only [okIt] using h
theorem ok_range1 {a : E} (h : okIt (.range1 a) N nm x = true) : ∃ y p v pos, x = .Call (.Name y p) [v] [] pos ∧ (decide (Str.ofString "range" = y) && glB nm y && okE a N nm v) = true := by
  unfold okIt at h
  split at h
  all_goals first | (cases h; done) | (rename_i heq; cases heq; done) | skip
  rename_i heq
  cases heq
  exact ⟨_, _, _, _, rfl, h⟩
theorem ok_range2 {a b : E} (h : okIt (.range2 a b) N nm x = true) : ∃ y p v u pos, x = .Call (.Name y p) [v, u] [] pos ∧ (decide (Str.ofString "range" = y) && glB nm y && okE a N nm v && okE b N nm u) = true := by
  unfold okIt at h
  split at h
  all_goals first | (cases h; done) | (rename_i heq; cases heq; done) | skip
  rename_i heq
  cases heq
  exact ⟨_, _, _, _, _, rfl, h⟩
theorem ok_zip {a b : E} (h : okIt (.zip a b) N nm x = true) : ∃ y p v u pos, x = .Call (.Name y p) [v, u] [] pos ∧ (decide (Str.ofString "zip" = y) && glB nm y && okE a N nm v && okE b N nm u) = true := by
  unfold okIt at h
  split at h
  all_goals first | (cases h; done) | (rename_i heq; cases heq; done) | skip
  rename_i heq
  cases heq
  exact ⟨_, _, _, _, _, rfl, h⟩
theorem ok_enum {a : E} (h : okIt (.enum a) N nm x = true) : ∃ y p v pos, x = .Call (.Name y p) [v] [] pos ∧ (decide (Str.ofString "enumerate" = y) && glB nm y && okE a N nm v) = true := by
  unfold okIt at h
  split at h
  all_goals first | (cases h; done) | (rename_i heq; cases heq; done) | skip
  rename_i heq
  cases heq
  exact ⟨_, _, _, _, rfl, h⟩
end
end PyEv

set_option maxRecDepth 100000
set_option maxHeartbeats 4000000
/-! PyM1: every expression is sound. -/
namespace PyEv
open PySem L2
variable [TabL]

/-- all that an expression needs of its context -/
structure All (X : Cx) (xi : XI) (W : WX) (lv : Nat) (N : List Str) (nm : Nms) (PP : Prog) (cf : Str → List PyEv.W → CRes) : Prop where
  c : CxOk X lv
  hN : X.N = N
  n : NmOk X nm
  d : DefW X.prog X.w X.K X.mg X.base xi PP cf lv
  tk : Takes X W
  hc : ∀ x d, PP.consts.lookup x = some d → ConstOk X x d
  ex : ExcsOk X.prog X.K X.mg PP.excs
  l2 : 2 ≤ lv
  hxi : xi = xiE X.K X.w
  hr : ∀ h, PP.hears.contains h = true → HearOk X.K X.mg h
  lam : PP.hears ≠ [] → unm nm = true → Room (lv + 2) X.A ∧ ∃ c P, X.env.code = .ref c ∧ LamX.TabB X.base X.mg c P ∧ (P, lq X) ∈ TabL.T ∧ ∀ p ∈ TabL.T, p.1 = P → p.2 = lq X
/-- .. and a boolean one, whatever its whole is -/
structure SndX (X : Cx) (xi : XI) (W : WX) (x : Expr) (r : Env → Res Ar) : Prop where
  s : Snd X xi W x r
  w : ∀ op l pos, x = .BoolOp op l pos → PW X x (tG X.K X.w xi W RB (fun env => useB (r env)))
theorem SndX.of {X : Cx} {xi : XI} {W : WX} {x : Expr} {r : Env → Res Ar} (s : Snd X xi W x r) (h : (match (generalizing := false) x with | .BoolOp .. => false | _ => true) = true) : SndX X xi W x r := ⟨s, fun op l pos e => by subst e; cases h⟩
theorem SndX.of' {X : Cx} {xi : XI} {W : WX} {x : Expr} {r : Env → Res Ar} (s : SndW X xi W x r) : SndX X xi W x r := ⟨s.1, fun _ _ _ _ => s.2⟩

section
variable {X : Cx} {xi : XI} {W : WX} {lv : Nat} {N : List Str} {nm : Nms} {PP : Prog} {cf : Str → List PyEv.W → CRes} {keep : List Nat}
theorem All.blk (a : All X xi W lv N nm PP cf) (hu : unm nm = true) (scope : Scope) (s : Shared) (H : Hp) (C : Addr) (cl : List (Str × Addr)) (fp : List Addr) : All (X.blk s H scope (compEnvC scope cl C X.env) fp) xi WNo lv N scope.names PP cf :=
  ⟨a.c.blk scope, a.hN, NmOk.blk (nm := nm) scope, a.d, takes0, fun x d h => ⟨(a.hc x d h).ex⟩, ⟨a.ex.ad, a.ex.sup, a.ex.ve⟩, a.l2, a.hxi, a.hr, fun z _ => a.lam z hu⟩
theorem lamB_ok {scope : Scope} (n : NmOk X nm) (h : lamB nm scope = true) : LamX.LamS X.env.scope scope := by
  unfold lamB at h
  simp only [Bool.and_eq_true, Bool.or_eq_true, Bool.not_eq_true', decide_eq_true_eq, decide_eq_false_iff_not, List.all_eq_true] at h
  obtain ⟨⟨⟨h1, h2⟩, h3⟩, h4⟩ := h
  refine ⟨h1, h2, h3, fun y hy => (h4 y hy).1, fun y hy e => ?_⟩
  rcases (h4 y hy).2 with (z | z) | z
  · exact absurd e z
  · exact n.cf _ (.inl z)
  · exact n.cf _ (.inr z)
theorem noArgs_eq {ps : Arguments} (h : noArgs ps = true) : ps = ⟨[], [], none, [], [], none, []⟩ := by
  unfold noArgs at h
  split at h
  · rfl
  · cases h
theorem noArgs_df {ps : Arguments} {env : PySem.Env} (h : noArgs ps = true) : defaultsOf ps env = ([], []) := by
  rw [noArgs_eq h]; rfl
theorem noArgs_bd {ps : Arguments} {body : Expr} {scope : Scope} (h : noArgs ps = true) : lBind ps body scope := by
  rw [noArgs_eq h]
  intro q cl pm cv ctv
  rfl
theorem All.lamA (a : All X xi W lv N nm PP cf) {scope : Scope} (S : LamX.LamS X.env.scope scope) {A : Around} {outer : List PySem.Env} {s : Shared} {H : Hp} {E : XK} {f c : Addr} (g : A.guards = some []) (rm : Room lv (A.deeper (LamX.lamEnv X scope s.heap.objs.size f c))) :
    All (LamX.lamCx X A outer s H E scope f c) xi (fun cls d _ H => E cls d H) lv N (("<lambda>", .globalExplicit) :: scope.names) PP cf := by
  have lk : ∀ {y : Str} {k : NameKind}, List.lookup y ((("<lambda>" : Str), NameKind.globalExplicit) :: scope.names) = some k → k ≠ .globalExplicit → scope.names.lookup y = some k := fun {y k} h n => by
    rw [List.lookup_cons] at h
    split at h
    · cases h; exact absurd rfl n
    · exact h
  refine ⟨⟨rfl, rm, g, a.c.nd, a.c.blt, a.c.sys⟩, a.hN, ⟨fun x h => ?_, fun x h => ?_, fun x h => ?_, fun x h => ?_⟩, a.d, takes_of rfl rfl rfl rfl, fun x d h => ⟨(a.hc x d h).ex⟩, ⟨a.ex.ad, a.ex.sup, a.ex.ve⟩, a.l2, a.hxi, a.hr, fun _ z => ?_⟩
  · unfold visB at h
    split at h
    · rename_i q; exact .inl (lk q (by decide))
    · rename_i q; exact .inr (.inl (lk q (by decide)))
    · rename_i q; exact .inr (.inr (lk q (by decide)))
    · cases h
  · unfold glB at h
    split at h
    · rename_i q; exact lk q (by decide)
    · cases h
  · unfold locB at h
    split at h
    · rename_i q; exact absurd rfl (S.own _ (PySem.mem_of_lookup (lk q (by decide)))).1
    · rename_i q; exact absurd rfl (S.own _ (PySem.mem_of_lookup (lk q (by decide)))).2
    · cases h
  · rcases h with h | h
    · exact .inl (lk h (by decide))
    · exact .inr (lk h (by decide))
  · unfold unm at z
    rw [List.lookup_cons_self] at z
    cases z
theorem Snd.if_ {x : Expr} {t : Prop} [Decidable t] {r : Env → Res Ar} (h : t → Snd X xi W x r) : Snd X xi W x (fun env => if t then r env else .bad) := by
  by_cases z : t
  · simpa [z] using h z
  · simp only [z, if_false]
    refine ⟨⟨?_⟩, ⟨?_⟩⟩ <;> (intros; rename_i q; obtain ⟨_, _, _, _, fin⟩ := q; exact fin.elim)
theorem keysOk_len : ∀ {ks : List Str} {keys : List (Option Expr)}, keysOk ks keys = true → ks.length = keys.length ∧ keys.all (·.isSome) = true
  | [], [], _ => ⟨rfl, rfl⟩
  | [], _ :: _, h => by cases h
  | _ :: _, [], h => by cases h
  | k :: ks, none :: keys, h => by cases h
  | k :: ks, some e :: keys, h => by
    unfold keysOk at h
    split at h
    · rename_i heq; cases heq
    · rename_i h1 h2
      cases h1; cases h2
      rw [Bool.and_eq_true] at h
      obtain ⟨a, b⟩ := keysOk_len h.2
      exact ⟨by simp [a], by simpa using b⟩
    · cases h
theorem keysOk_cons {k : Str} {ks : List Str} {keys : List (Option Expr)} (h : keysOk (k :: ks) keys = true) : ∃ j p r, keys = some (.Constant (.str k) j p) :: r ∧ keysOk ks r = true := by
  cases keys with
  | nil => cases h
  | cons e r =>
    unfold keysOk at h
    split at h
    · rename_i h1 h2; cases h1
    · rename_i h1 h2
      cases h1; cases h2
      rw [Bool.and_eq_true, decide_eq_true_eq] at h
      obtain ⟨rfl, h⟩ := h
      exact ⟨_, _, _, rfl, h⟩
    · cases h

theorem lcS_of {elt : E} {tg : Tg} {it : It} {cond : E} {own : List (Str × Nat)} {e t iter : Expr} {ifs : List Expr} {scope : Scope} (A : All X xi W lv N nm PP cf) (hu : unm nm = true)
    (h2 : blkC N { scope with names := nm } scope own = true) (h4 : tgOk N scope.names tg t = true) (h6 : notSet iter = true) (h8 : (match (generalizing := false) ifs with | [] => cond.isNone | [c] => !cond.isNone && okE cond N scope.names c | _ => false) = true)
    (hi : SndIt X xi W t iter (evIt PP cf keep it)) (he : ∀ (s : Shared) (H : Hp) (C : Addr) (cl : List (Str × Addr)) (fp : List Addr), SndX (X.blk s H scope (compEnvC scope cl C X.env) fp) xi WNo e (evE PP cf keep elt))
    (hcnd : ∀ c, okE cond N scope.names c = true → ∀ (s : Shared) (H : Hp) (C : Addr) (cl : List (Str × Addr)) (fp : List Addr), SndX (X.blk s H scope (compEnvC scope cl C X.env) fp) xi WNo c (evE PP cf keep cond)) :
    LcS X xi W tg t iter e ifs scope own (evIt PP cf keep it) (fun env => if cond.isNone = true then .ok true env else useB (evE PP cf keep cond env)) (fun env => (evE PP cf keep elt env).bind item) := by
  have L := lcOk_of A.c A.hN A.n h2 h4
  refine ⟨L.blk, L.tgs, hi, fun s H C cl fp => pg_tg (A.blk hu scope s H C cl fp).c A.hN (A.blk hu scope s H C cl fp).n h4, ?_, fun s H C cl fp => snd_item (he s H C cl fp).s.pe, h6⟩
  match ifs, h8 with
  | [], h8 =>
    have h8 : cond.isNone = true := h8
    refine ⟨tYes, fun s H C cl fp => pts_nil, fun σ H Q q => ?_⟩
    simp only [h8, if_true] at q
    obtain ⟨Hf, env, L, s0, fin⟩ := q
    exact fin true [] Hf H L ⟨rfl, rfl⟩ s0.sl (Step.refl s0.sub) s0.fam
  | [c], h8 =>
    have h8 : (!cond.isNone && okE cond N scope.names c) = true := h8
    rw [Bool.and_eq_true, Bool.not_eq_true'] at h8
    refine ⟨tG X.K X.w xi WNo RB (fun env => useB (evE PP cf keep cond env)), fun s H C cl fp => pts_one (hcnd c h8.2 s H C cl fp).s.pt, fun σ H Q q => ?_⟩
    simpa only [h8.1, Bool.false_eq_true, if_false] using q
  | _ :: _ :: _, h8 => cases h8

theorem snd_bad {x : Expr} : SndX X xi W x (fun _ => .bad) := by
  refine ⟨⟨⟨?_⟩, ⟨?_⟩⟩, fun op l pos e => ⟨?_⟩⟩ <;> (intros; rename_i q; obtain ⟨_, _, _, _, fin⟩ := q; exact fin.elim)
theorem SndX.ite {x : Expr} {t : Bool} {r : Env → Res Ar} (h : t = true → SndX X xi W x r) : SndX X xi W x (fun env => if t = true then r env else .bad) := by
  cases t with
  | true => simpa using h rfl
  | false => simpa using snd_bad
mutual
theorem sE : ∀ (e : E) {X : Cx} {W : WX} {nm : Nms} {x : Expr}, All X xi W lv N nm PP cf → okE e N nm x = true → SndX X xi W x (evE PP cf keep e)
  | .var i, X, W, nm, x, A, h0 => by
    obtain ⟨y, pos, rfl, h⟩ := ok_var h0
    exact .of (snd_var A.hN A.n h).1 rfl
  | .k c, X, W, nm, x, A, h0 => by
    obtain ⟨v, j, pos, rfl, h⟩ := ok_k h0
    exact .of (snd_k h) rfl
  | .glob g, X, W, nm, x, A, h0 => by
    obtain ⟨y, pos, rfl, h⟩ := ok_glob h0
    exact .of (snd_glob A.n A.hc h) rfl
  | .tup es, X, W, nm, x, A, h0 => by
    obtain ⟨l, k, pos, rfl, h⟩ := ok_tup h0
    exact .of (snd_tup (sIts es A h)) rfl
  | .lst es, X, W, nm, x, A, h0 => by
    obtain ⟨l, pos, rfl, h⟩ := ok_lst h0
    exact .of (snd_lst (sIts es A h)) rfl
  | .dct ks es, X, W, nm, x, A, h0 => by
    obtain ⟨keys, vals, pos, rfl, h⟩ := ok_dct h0
    simp only [Bool.and_eq_true, decide_eq_true_eq] at h
    obtain ⟨⟨⟨⟨⟨h1, h2⟩, h3⟩, h4⟩, h5⟩, h6⟩ := h
    obtain ⟨l1, l2⟩ := keysOk_len h1
    by_cases h0 : keys = []
    · subst h0
      have e1 : ks = [] := List.eq_nil_of_length_eq_zero (by simpa using l1)
      have e2 : vals = [] := List.eq_nil_of_length_eq_zero (by simpa using h3.symm)
      subst e1 e2
      cases es with
      | nil => exact .of (snd_dct0) rfl
      | cons e es => cases h2
      | star e es => cases h2
    · exact .of (snd_dct (sDs es A h6 h1 h3 h2) l2 h3 h0 (by rw [← l1]; exact h4) l1 h5) rfl
  | .bin o a b, X, W, nm, x, A, h0 => by
    obtain ⟨l, op, r, pos, rfl, h⟩ := ok_bin h0
    simp only [Bool.and_eq_true] at h
    exact .of (snd_bin h.1.1 (sE a A h.1.2).s (sE b A h.2).s) rfl
  | .neg a, X, W, nm, x, A, h0 => by
    obtain ⟨y, pos, rfl, h⟩ := ok_neg h0
    exact .of (snd_neg (sE a A h).s) rfl
  | .cmp o a b, X, W, nm, x, A, h0 => by
    obtain ⟨l, op, r, pos, rfl, h⟩ := ok_cmp h0
    simp only [Bool.and_eq_true] at h
    exact .of (snd_cmp A.c h.1.1.1 h.2 (sE a A h.1.1.2).s (sE b A h.1.2).s) rfl
  | .chain o1 o2 a b c, X, W, nm, x, A, h0 => by
    obtain ⟨l, p, q, r, t, pos, rfl, h⟩ := ok_chain h0
    simp only [Bool.and_eq_true] at h
    obtain ⟨⟨⟨⟨⟨h1, h2⟩, h3⟩, h4⟩, h5⟩, h6⟩ := h
    exact .of (snd_chain A.c h1 h2 h6 (sE a A h3).s (sE b A h4).s (sE c A h5).s) rfl
  | .and a b, X, W, nm, x, A, h0 => by
    obtain ⟨v, u, rest, pos, rfl, h⟩ := ok_and h0
    rw [Bool.and_eq_true] at h
    cases rest with
    | nil => exact .of' (snd_and1 (sE a A h.1).s (sE b A h.2).s)
    | cons z zs =>
      have hb := sE b A (x := .BoolOp .And (u :: z :: zs) pos) h.2
      exact .of' (snd_and2 (sE a A h.1).s ⟨hb.s, hb.w _ _ _ rfl⟩)
  | .or a b, X, W, nm, x, A, h0 => by
    obtain ⟨v, u, rest, pos, rfl, h⟩ := ok_or h0
    rw [Bool.and_eq_true] at h
    cases rest with
    | nil => exact .of' (snd_or1 (sE a A h.1).s (sE b A h.2).s)
    | cons z zs =>
      have hb := sE b A (x := .BoolOp .Or (u :: z :: zs) pos) h.2
      exact .of' (snd_or2 (sE a A h.1).s ⟨hb.s, hb.w _ _ _ rfl⟩)
  | .not a, X, W, nm, x, A, h0 => by
    obtain ⟨y, pos, rfl, h⟩ := ok_not h0
    exact .of (snd_not (sE a A h).s) rfl
  | .ifx c a b, X, W, nm, x, A, h0 => by
    obtain ⟨t, y, z, pos, rfl, h⟩ := ok_ifx h0
    simp only [Bool.and_eq_true] at h
    exact .of (snd_ifx (sE c A h.1.1).s (sE a A h.1.2).s (sE b A h.2).s) rfl
  | .call f es, X, W, nm, x, A, h0 => by
    obtain ⟨y, p, a, as, pos, rfl, h⟩ := ok_call h0
    rw [Bool.and_eq_true] at h
    have hp := okAs_plain h.2
    exact .of (snd_call A.c A.d A.tk A.n h.1 (hp a List.mem_cons_self) (fun z hz => hp z (List.mem_cons_of_mem _ hz)) (sAs es A h.2)) rfl
  | .bi f a, X, W, nm, x, A, h0 => by
    obtain ⟨y, p, v, pos, rfl, h⟩ := ok_bi h0
    simp only [Bool.and_eq_true, decide_eq_true_eq] at h
    exact .of (snd_bi A.c A.n h.1.1 h.1.2 (okE_plain h.2) (sE a A h.2).s) rfl
  | .mm mx a b, X, W, nm, x, A, h0 => by
    obtain ⟨y, p, v, u, pos, rfl, h⟩ := ok_mm h0
    rw [Bool.and_eq_true, Bool.and_eq_true, Bool.and_eq_true, decide_eq_true_eq] at h
    exact .of (snd_mm A.c A.n h.1.1.1 h.1.1.2 (okE_plain h.1.2) (okE_plain h.2) (sE a A h.1.2).s (sE b A h.2).s) rfl
  | .isi a t, X, W, nm, x, A, h0 => by
    obtain ⟨y, p, v, z, p2, pos, rfl, h⟩ := ok_isi h0
    simp only [Bool.and_eq_true, decide_eq_true_eq] at h
    obtain ⟨⟨⟨⟨h1, h2⟩, h3⟩, h4⟩, h5⟩ := h
    exact .of (snd_isi A.c A.n h1 h2 (okE_plain h3) h4 h5 (sE a A h3).s) rfl
  | .ix a i, X, W, nm, x, A, h0 => by
    obtain ⟨v, s, pos, rfl, h⟩ := ok_ix h0
    simp only [Bool.and_eq_true] at h
    exact .of (snd_ix A.c h.2 (sE a A h.1.1).s (sE i A h.1.2).s) rfl
  | .slc a lo hi, X, W, nm, x, A, h0 => by
    obtain ⟨v, l, h', p2, pos, rfl, h⟩ := ok_slc h0
    rw [Bool.and_eq_true, Bool.and_eq_true] at h
    obtain ⟨⟨h1, h2⟩, h3⟩ := h
    have g2 : match (generalizing := false) l with | none => lo.isNone = true | some x => lo.isNone = false ∧ Snd X xi W x (evE PP cf keep lo) := by
      cases l with
      | none => exact h2
      | some y =>
        rw [Bool.and_eq_true, Bool.not_eq_true'] at h2
        exact ⟨h2.1, (sE lo A h2.2).s⟩
    have g3 : match (generalizing := false) h' with | none => hi.isNone = true | some x => hi.isNone = false ∧ Snd X xi W x (evE PP cf keep hi) := by
      cases h' with
      | none => exact h3
      | some y =>
        rw [Bool.and_eq_true, Bool.not_eq_true'] at h3
        exact ⟨h3.1, (sE hi A h3.2).s⟩
    exact .of (snd_slc A.c (sE a A h1).s g2 g3) rfl
  | .rev a, X, W, nm, x, A, h0 => by
    obtain ⟨v, i, k, p1, p2, p3, pos, rfl, h⟩ := ok_rev h0
    rw [Bool.and_eq_true, decide_eq_true_eq] at h
    exact .of (snd_rev h.1 (sE a A h.2).s) rfl
  | .bm m o es, X, W, nm, x, A, h => (ok_bm h).elim
  | .mut m i es, X, W, nm, x, A, h0 => by
    obtain ⟨y, p, z, apos, a, as, pos, rfl, h⟩ := ok_mut h0
    simp only [Bool.and_eq_true, decide_eq_true_eq] at h
    obtain ⟨⟨⟨⟨⟨⟨⟨h1, h2⟩, h3⟩, h4⟩, h5⟩, h6⟩, h7⟩, h8⟩ := h
    have hpl : ∀ z ∈ (a :: as), plainX z = true := fun z hz => List.all_eq_true.mp h8 z hz
    exact .of (snd_mut A.c A.hN A.n h1 (by simp only [Bool.and_eq_true, decide_eq_true_eq]; exact ⟨⟨h2, h3⟩, h4⟩) h6 h7 hpl (sIts es A h5)) rfl
  | .lc elt tg it cond own, X, W, nm, x, A, h0 => by
    obtain ⟨e, t, iter, ifs, ia, scope, pos, rfl, h⟩ := ok_lc h0
    rw [Bool.and_eq_true, Bool.and_eq_true, Bool.and_eq_true, Bool.and_eq_true, Bool.and_eq_true, Bool.and_eq_true, Bool.and_eq_true, Bool.and_eq_true, Bool.and_eq_true, decide_eq_true_eq] at h
    obtain ⟨⟨⟨⟨⟨⟨⟨⟨⟨h1, hu⟩, h2⟩, h3⟩, h4⟩, h5⟩, h6⟩, h7⟩, h8⟩, h9⟩ := h
    subst h1
    exact .of (snd_lc A.c (lcS_of A hu h2 h4 h6 h8 (sIt it A h5 h9 h4) (fun s H C cl fp => sE elt (A.blk hu scope s H C cl fp) h3) fun c hc s H C cl fp => sE cond (A.blk hu scope s H C cl fp) hc)) rfl
  | .listRange a, X, W, nm, x, A, h0 => by
    obtain ⟨y, p, z, p2, v, pos2, pos, rfl, h⟩ := ok_listRange h0
    simp only [Bool.and_eq_true, decide_eq_true_eq] at h
    obtain ⟨⟨⟨⟨h1, h2⟩, h3⟩, h4⟩, h5⟩ := h
    exact .of (snd_listRange A.c A.n h1 h2 h3 h4 (okE_plain h5) (sE a A h5).s) rfl
  | .none, X, W, nm, x, A, h => (ok_none h).elim
  | .mk c e, X, W, nm, x, A, h0 => by
    obtain ⟨k, p, ex, pos, rfl, h⟩ := ok_mk h0
    simp only [Bool.and_eq_true, decide_eq_true_eq] at h
    obtain ⟨⟨⟨rfl, h2⟩, h3⟩, h4⟩ := h
    exact SndX.ite fun hk => .of (snd_mk A.c A.l2 A.ex A.n hk h2 h3 (okE_plain h4) (sE e A h4).s) rfl
  | .fldv e, X, W, nm, x, A, h0 => by
    obtain ⟨v, y, pos, rfl, h⟩ := ok_fldv h0
    simp only [Bool.and_eq_true, decide_eq_true_eq] at h
    obtain ⟨⟨rfl, h2⟩, h3⟩ := h
    exact .of (snd_fldv A.ex h3 (sE e A h2).s) rfl
  | .isx e c, X, W, nm, x, A, h0 => by
    obtain ⟨z, p, v, y, p2, pos, rfl, h⟩ := ok_isx h0
    simp only [Bool.and_eq_true, decide_eq_true_eq] at h
    obtain ⟨⟨⟨⟨⟨h1, h2⟩, h3⟩, rfl⟩, h5⟩, h6⟩ := h
    exact SndX.ite fun hk => .of (snd_isx A.c A.ex A.n hk h1 h2 (okE_plain h3) h5 h6 (sE e A h3).s) rfl
  | .heard hh e, X, W, nm, x, A, h0 => by
    obtain ⟨y, p, ps, body, scope, lp, pos, rfl, h⟩ := ok_heard h0
    simp only [Bool.and_eq_true, decide_eq_true_eq] at h
    obtain ⟨⟨⟨⟨⟨⟨rfl, h2⟩, h3⟩, h4⟩, h5⟩, h6⟩, h7⟩ := h
    obtain ⟨n1, _, _⟩ := nameB_of h3
    refine .of (Snd.if_ fun hk => ?_) rfl
    obtain ⟨hk1, hk2⟩ := hk
    have S := lamB_ok A.n h5
    obtain ⟨rm, c, P, g1, g2, g3, g4⟩ := A.lam (fun z => by rw [z] at hk1; cases hk1) h6
    refine (congrArg (fun z => Snd X z W _ _) A.hxi).mpr ?_
    refine snd_heard (re := fun env => (evE PP cf keep e env).bind item) A.ex hk2 (A.hr _ hk1) (A.n.gl _ h2) A.c.guards rm g2 g1 g3 g4 S (noArgs_df h4) (noArgs_bd h4) (fun A' outer s H E f c' q1 q2 => ?_) n1
    have z := snd_item (sE e (A.lamA S (outer := outer) (H := H) (E := E) q1 q2) h7).s.pe
    rw [A.hxi] at z
    exact z
  | .isv e, X, W, nm, x, A, h0 => by
    obtain ⟨z, p, v, y, p2, pos, rfl, h⟩ := ok_isv h0
    simp only [Bool.and_eq_true, decide_eq_true_eq] at h
    obtain ⟨⟨⟨⟨h1, h2⟩, h3⟩, h4⟩, h5⟩ := h
    exact .of (snd_isv A.c A.ex A.n h1 h2 (okE_plain h3) h4 h5 (sE e A h3).s) rfl
  | .fstr es, X, W, nm, x, A, h0 => by
    obtain ⟨l, pos, rfl, h⟩ := ok_fstr h0
    simp only [Bool.and_eq_true, decide_eq_true_eq] at h
    exact .of (snd_fstr (rj := evJs PP cf keep es) h.2 (sJs es A h.1)) rfl
  | .never, X, W, nm, x, A, h0 => by
    exact snd_bad
theorem sJs : ∀ (es : Es) {X : Cx} {W : WX} {nm : Nms} {xs : List Expr}, All X xi W lv N nm PP cf → okJs es N nm xs = true → SndJs X xi W xs (evJs PP cf keep es)
  | .nil, X, W, nm, xs, A, h => by
    rw [ok_jnil h]
    exact js_nil
  | .cons e es, X, W, nm, xs, A, h0 => by
    rcases ok_jcons h0 with ⟨v, pos, ys, rfl, h1, h2⟩ | ⟨c, j, p, ys, rfl, h1, h2⟩
    · exact js_fmt (sE e A h1).s (sJs es A h2)
    · exact js_con (sE e A h1).s (sJs es A h2)
  | .star e es, X, W, nm, xs, A, h => (ok_jstar h).elim
theorem sIts : ∀ (es : Es) {X : Cx} {W : WX} {nm : Nms} {xs : List Expr}, All X xi W lv N nm PP cf → okIts es N nm xs = true → SndIts X xi W xs (evIts PP cf keep es)
  | .nil, X, W, nm, xs, A, h => by
    rw [ok_inil h]
    exact its_nil
  | .cons e es, X, W, nm, xs, A, h0 => by
    obtain ⟨y, ys, rfl, h⟩ := ok_icons h0
    rw [Bool.and_eq_true] at h
    exact its_cons (okE_plain h.1) (sE e A h.1).s.pe (sIts es A h.2)
  | .star e es, X, W, nm, xs, A, h0 => by
    obtain ⟨y, p, ys, rfl, h⟩ := ok_istar h0
    rw [Bool.and_eq_true] at h
    exact its_star (sE e A h.1).s.pe (sIts es A h.2)
theorem sDs : ∀ (es : Es) {X : Cx} {W : WX} {nm : Nms} {ks : List Str} {keys : List (Option Expr)} {vals : List Expr} {pos : Pos}, All X xi W lv N nm PP cf → es.plain = true → keysOk ks keys = true → keys.length = vals.length → okIts es N nm vals = true → SndDs X xi W ks keys vals pos (evIts PP cf keep es)
  | .nil, X, W, nm, ks, keys, vals, pos, A, hq, hk, hl, h => by
    rw [ok_inil h] at hl ⊢
    have e1 : keys = [] := List.eq_nil_of_length_eq_zero (by simpa using hl)
    subst e1
    have e2 : ks = [] := List.eq_nil_of_length_eq_zero (by simpa using (keysOk_len hk).1)
    subst e2
    exact ds_nil
  | .cons e es, X, W, nm, ks, keys, vals, pos, A, hq, hk, hl, h0 => by
    obtain ⟨y, ys, rfl, h⟩ := ok_icons h0
    rw [Bool.and_eq_true] at h
    cases ks with
    | nil =>
      have := (keysOk_len hk).1
      rw [← this] at hl
      simp at hl
    | cons k ks =>
      obtain ⟨j, p, r, rfl, hk2⟩ := keysOk_cons hk
      exact ds_cons (sE e A h.1).s.pe (sDs es A hq hk2 (by simpa using hl) h.2)
  | .star e es, X, W, nm, ks, keys, vals, pos, A, hq, hk, hl, h0 => by
    cases hq
theorem sAs : ∀ (es : Es) {X : Cx} {W : WX} {nm : Nms} {xs : List Expr}, All X xi W lv N nm PP cf → okAs es N nm xs = true → SndAs X xi W xs (evAs PP cf keep es)
  | .nil, X, W, nm, xs, A, h => by
    rw [ok_anil h]
    exact as_nil
  | .cons e es, X, W, nm, xs, A, h0 => by
    obtain ⟨y, ys, rfl, h⟩ := ok_acons h0
    rw [Bool.and_eq_true] at h
    exact as_cons (okE_plain h.1) (sE e A h.1).s.pe (sAs es A h.2)
  | .star e es, X, W, nm, xs, A, h => (ok_astar h).elim
theorem sIt : ∀ (it : It) {X : Cx} {W : WX} {nm nm' : Nms} {iter t : Expr} {tg : Tg}, All X xi W lv N nm PP cf → okIt it N nm iter = true → (match (generalizing := false) it with | .zip .. => tgTup tg | .enum .. => tgTup tg | _ => true) = true → tgOk N nm' tg t = true → SndIt X xi W t iter (evIt PP cf keep it)
  | .seq e, X, W, nm, nm', iter, t, tg, A, h, _, _ => it_seq (sE e A (ok_seq h)).s.pe
  | .range1 a, X, W, nm, nm', iter, t, tg, A, h0, _, _ => by
    obtain ⟨y, p, v, pos, rfl, h⟩ := ok_range1 h0
    simp only [Bool.and_eq_true, decide_eq_true_eq] at h
    exact it_range1 A.c A.n h.1.1 h.1.2 (okE_plain h.2) (sE a A h.2).s
  | .range2 a b, X, W, nm, nm', iter, t, tg, A, h0, _, _ => by
    obtain ⟨y, p, v, u, pos, rfl, h⟩ := ok_range2 h0
    simp only [Bool.and_eq_true, decide_eq_true_eq] at h
    obtain ⟨⟨⟨h1, h2⟩, h3⟩, h4⟩ := h
    exact it_range2 A.c A.n h1 h2 (okE_plain h3) (okE_plain h4) (sE a A h3).s (sE b A h4).s
  | .zip a b, X, W, nm, nm', iter, t, tg, A, h0, ht, h5 => by
    obtain ⟨y, p, v, u, pos, rfl, h⟩ := ok_zip h0
    simp only [Bool.and_eq_true, decide_eq_true_eq] at h
    obtain ⟨⟨⟨h1, h2⟩, h3⟩, h4⟩ := h
    have ht : tgTup tg = true := ht
    obtain ⟨elts, kk, tpos, rfl⟩ : ∃ elts kk tpos, t = .Tuple elts kk tpos := by
      unfold tgOk at h5; split at h5 <;> first | exact ⟨_, _, _, rfl⟩ | cases ht | cases h5
    exact it_zip A.c A.n h1 h2 (okE_plain h3) (okE_plain h4) (sE a A h3).s (sE b A h4).s (plainAll fun z hz => by
      rcases List.mem_singleton.mp hz with rfl; exact okE_plain h4)
  | .enum a, X, W, nm, nm', iter, t, tg, A, h0, ht, h5 => by
    obtain ⟨y, p, v, pos, rfl, h⟩ := ok_enum h0
    simp only [Bool.and_eq_true, decide_eq_true_eq] at h
    have ht : tgTup tg = true := ht
    obtain ⟨elts, kk, tpos, rfl⟩ : ∃ elts kk tpos, t = .Tuple elts kk tpos := by
      unfold tgOk at h5; split at h5 <;> first | exact ⟨_, _, _, rfl⟩ | cases ht | cases h5
    exact it_enum A.c A.n h.1.1 h.1.2 (okE_plain h.2) (sE a A h.2).s
end
end
end PyEv

set_option maxRecDepth 100000
set_option maxHeartbeats 4000000
/-! PyM2: every statement is sound. -/
namespace PyEv
open PySem L2
variable [TabL]

def noSw (nm : Nms) : Expr → Expr → Bool
  | .Tuple [.Name x _, .Name y _] _ _, .Tuple [a, b] _ _ => plainX a && plainX b && ((nm.lookup x == some .cell) || (nm.lookup y == some .cell) || (foldedForSure 8 a && foldedForSure 8 b))
  | _, .Tuple .. => false
  | _, _ => true
def itTup (it : It) (tg : Tg) : Bool := match it with
  | .zip .. => tgTup tg
  | .enum .. => tgTup tg
  | _ => true
mutual
def okS : S → (N : List Str) → (nm : Nms) → Stmt → Bool
  | .set i e, N, nm, .Assign [.Name x _] ex _ => decide (N[i]? = some x) && locB nm x && nameB x && okE e N nm ex
  | .par i j a b, N, nm, .Assign [.Tuple [.Name x px, .Name y py] _ _] (.Tuple [v, u] _ _) _ => decide (N[i]? = some x) && decide (N[j]? = some y) && decide (i ≠ j) && decide (nm.lookup x = some .local) && decide (nm.lookup y = some .local) && (py.line == px.line) && !(x == y) && okE a N nm v && okE b N nm u && !(foldedForSure 8 v && foldedForSure 8 u) && !(constantsAlone 8 v && constantsAlone 8 u)
  | .unp tg e, N, nm, .Assign [t] ex _ => tgOk N nm tg t && tgTup tg && okE e N nm ex && !isComp ex && noSw nm t ex
  | .setix i ie e, N, nm, .Assign [.Subscript (.Name x _) iex _] ex _ => (decide (N[i]? = some x) && visB nm x && nameB x) && okE ie N nm iex && notSl iex && okE e N nm ex && !isComp ex
  | .ret e, N, nm, .Return (some ex) _ => okE e N nm ex
  | .ret (.k .non), _, _, .Return none _ => true
  | .ife c a b, N, nm, .If t p q _ => okE c N nm t && okSs a N nm p && okSs b N nm q
  | .for tg it body, N, nm, .For t iter b [] _ => tgOk N nm tg t && okIt it N nm iter && notSet iter && okSs body N nm b && itTup it tg
  | .whl c body, N, nm, .While t b [] _ => okE c N nm t && okSs body N nm b
  | .expr e, N, nm, .Expr ex _ => okE e N nm ex && !isComp ex
  | .pass, _, _, .Pass _ => true
  | .pass, _, _, .Expr (.Constant (.str _) _ _) _ => true
  | .never, _, _, _ => true
  | .raise c e, N, nm, .Raise (some (.Call (.Name k _) [ex] [] _)) none _ => decide (c = k) && glB nm k && nameB k && okE e N nm ex
  | .tryset i e n m, N, nm, .Try [.Assign [.Name x _] ex _] [.ExceptHandler (some (.Name t _)) (some y) [.Assign [.Name z _] (.Name y2 _) _] _] [] [] _ => decide (t = "TypeUnknown") && glB nm t && decide (N[n]? = some y) && decide (N[m]? = some z) && decide (nm.lookup y = some .local) && decide (nm.lookup z = some .local) && nameB y && decide (y = y2) && decide (N[i]? = some x) && locB nm x && !isComp ex && okE e N nm ex
  | .tryraise c e n m, N, nm, .Try [.Raise (some (.Call (.Name k _) [ex] [] _)) none _] [.ExceptHandler (some (.Name t _)) (some y) [.Assign [.Name z _] (.Name y2 _) _] _] [] [] _ => decide (t = "TypeUnknown") && glB nm t && decide (N[n]? = some y) && decide (N[m]? = some z) && decide (nm.lookup y = some .local) && decide (nm.lookup z = some .local) && nameB y && decide (y = y2) && decide (c = k) && glB nm k && nameB k && okE e N nm ex
  | _, _, _, _ => false
def okSs : Ss → (N : List Str) → (nm : Nms) → List Stmt → Bool
  | .nil, _, _, [] => true
  | .cons s ss, N, nm, x :: xs => okS s N nm x && okSs ss N nm xs
  | _, _, _, _ => false
end

section
variable {N : List Str} {nm : Nms} {x : Stmt} {xs : List Stmt}

theorem oks_set {i : Nat} {e : E} (h : okS (.set i e) N nm x = true) : ∃ y py ex pos, x = .Assign [.Name y py] ex pos ∧ (decide (N[i]? = some y) && locB nm y && nameB y && okE e N nm ex) = true := by
  unfold okS at h
  split at h
  all_goals first | (cases h; done) | (rename_i heq; cases heq; done) | skip
  rename_i heq
  cases heq
  exact ⟨_, _, _, _, rfl, h⟩

theorem oks_par {i j : Nat} {a b : E} (h : okS (.par i j a b) N nm x = true) : ∃ y py z pz k1 p1 v u k2 p2 pos, x = .Assign [.Tuple [.Name y py, .Name z pz] k1 p1] (.Tuple [v, u] k2 p2) pos ∧ (decide (N[i]? = some y) && decide (N[j]? = some z) && decide (i ≠ j) && decide (nm.lookup y = some .local) && decide (nm.lookup z = some .local) && (pz.line == py.line) && !(y == z) && okE a N nm v && okE b N nm u && !(foldedForSure 8 v && foldedForSure 8 u) && !(constantsAlone 8 v && constantsAlone 8 u)) = true := by
  unfold okS at h
  split at h
  all_goals first | (cases h; done) | (rename_i heq; cases heq; done) | skip
  rename_i heq
  cases heq
  exact ⟨_, _, _, _, _, _, _, _, _, _, _, rfl, h⟩

theorem oks_unp {tg : Tg} {e : E} (h : okS (.unp tg e) N nm x = true) : ∃ t ex pos, x = .Assign [t] ex pos ∧ (tgOk N nm tg t && tgTup tg && okE e N nm ex && !isComp ex && noSw nm t ex) = true := by
  unfold okS at h
  split at h
  all_goals first | (cases h; done) | (rename_i heq; cases heq; done) | skip
  rename_i heq
  cases heq
  exact ⟨_, _, _, rfl, h⟩

theorem oks_setix {i : Nat} {ie e : E} (h : okS (.setix i ie e) N nm x = true) : ∃ y p1 iex p2 ex pos, x = .Assign [.Subscript (.Name y p1) iex p2] ex pos ∧ ((decide (N[i]? = some y) && visB nm y && nameB y) && okE ie N nm iex && notSl iex && okE e N nm ex && !isComp ex) = true := by
  unfold okS at h
  split at h
  all_goals first | (cases h; done) | (rename_i heq; cases heq; done) | skip
  rename_i heq
  cases heq
  exact ⟨_, _, _, _, _, _, rfl, h⟩

theorem oks_ife {c : E} {a b : Ss} (h : okS (.ife c a b) N nm x = true) : ∃ t p q pos, x = .If t p q pos ∧ (okE c N nm t && okSs a N nm p && okSs b N nm q) = true := by
  unfold okS at h
  split at h
  all_goals first | (cases h; done) | (rename_i heq; cases heq; done) | skip
  rename_i heq
  cases heq
  exact ⟨_, _, _, _, rfl, h⟩

theorem oks_for {tg : Tg} {it : It} {body : Ss} (h : okS (.for tg it body) N nm x = true) : ∃ t iter b pos, x = .For t iter b [] pos ∧ (tgOk N nm tg t && okIt it N nm iter && notSet iter && okSs body N nm b && itTup it tg) = true := by
  unfold okS at h
  split at h
  all_goals first | (cases h; done) | (rename_i heq; cases heq; done) | skip
  rename_i heq
  cases heq
  exact ⟨_, _, _, _, rfl, h⟩

theorem oks_whl {c : E} {body : Ss} (h : okS (.whl c body) N nm x = true) : ∃ t b pos, x = .While t b [] pos ∧ (okE c N nm t && okSs body N nm b) = true := by
  unfold okS at h
  split at h
  all_goals first | (cases h; done) | (rename_i heq; cases heq; done) | skip
  rename_i heq
  cases heq
  exact ⟨_, _, _, rfl, h⟩

theorem oks_expr {e : E} (h : okS (.expr e) N nm x = true) : ∃ ex pos, x = .Expr ex pos ∧ (okE e N nm ex && !isComp ex) = true := by
  unfold okS at h
  split at h
  all_goals first | (cases h; done) | (rename_i heq; cases heq; done) | skip
  rename_i heq
  cases heq
  exact ⟨_, _, rfl, h⟩

theorem oks_ret {e : E} (h : okS (.ret e) N nm x = true) : (∃ ex pos, x = .Return (some ex) pos ∧ okE e N nm ex = true) ∨ (e = .k .non ∧ ∃ pos, x = .Return none pos) := by
  unfold okS at h
  split at h
  all_goals first | (cases h; done) | (rename_i heq; cases heq; done) | skip
  · rename_i heq
    cases heq
    exact .inl ⟨_, _, rfl, h⟩
  · rename_i heq
    cases heq
    exact .inr ⟨rfl, _, rfl⟩
theorem oks_pass (h : okS .pass N nm x = true) : (∃ pos, x = .Pass pos) ∨ ∃ z j p pos, x = .Expr (.Constant (.str z) j p) pos := by
  unfold okS at h
  split at h
  all_goals first | (cases h; done) | (rename_i heq; cases heq; done) | skip
  · exact .inl ⟨_, rfl⟩
  · exact .inr ⟨_, _, _, _, rfl⟩
theorem oks_raise {c : Str} {e : E} (h : okS (.raise c e) N nm x = true) : ∃ k p1 ex p2 p3, x = .Raise (some (.Call (.Name k p1) [ex] [] p2)) none p3 ∧ (decide (c = k) && glB nm k && nameB k && okE e N nm ex) = true := by
  unfold okS at h
  split at h
  all_goals first | (cases h; done) | (rename_i heq; cases heq; done) | skip
  rename_i heq
  cases heq
  exact ⟨_, _, _, _, _, rfl, h⟩
theorem oks_tryset {i : Nat} {e : E} {n m : Nat} (h : okS (.tryset i e n m) N nm x = true) : ∃ x' q1 ex q2 t p1 y z p2 y2 p3 p4 p5 p6, x = .Try [.Assign [.Name x' q1] ex q2] [.ExceptHandler (some (.Name t p1)) (some y) [.Assign [.Name z p2] (.Name y2 p3) p4] p5] [] [] p6 ∧ (decide (t = "TypeUnknown") && glB nm t && decide (N[n]? = some y) && decide (N[m]? = some z) && decide (nm.lookup y = some .local) && decide (nm.lookup z = some .local) && nameB y && decide (y = y2) && decide (N[i]? = some x') && locB nm x' && !isComp ex && okE e N nm ex) = true := by
  unfold okS at h
  split at h
  all_goals first | (cases h; done) | (rename_i heq; cases heq; done) | skip
  rename_i heq
  cases heq
  exact ⟨_, _, _, _, _, _, _, _, _, _, _, _, _, _, rfl, h⟩
theorem oks_tryraise {c : Str} {e : E} {n m : Nat} (h : okS (.tryraise c e n m) N nm x = true) : ∃ k q1 ex q2 q3 t p1 y z p2 y2 p3 p4 p5 p6, x = .Try [.Raise (some (.Call (.Name k q1) [ex] [] q2)) none q3] [.ExceptHandler (some (.Name t p1)) (some y) [.Assign [.Name z p2] (.Name y2 p3) p4] p5] [] [] p6 ∧ (decide (t = "TypeUnknown") && glB nm t && decide (N[n]? = some y) && decide (N[m]? = some z) && decide (nm.lookup y = some .local) && decide (nm.lookup z = some .local) && nameB y && decide (y = y2) && decide (c = k) && glB nm k && nameB k && okE e N nm ex) = true := by
  unfold okS at h
  split at h
  all_goals first | (cases h; done) | (rename_i heq; cases heq; done) | skip
  rename_i heq
  cases heq
  exact ⟨_, _, _, _, _, _, _, _, _, _, _, _, _, _, _, rfl, h⟩
theorem oks_aug {o : Bo} {i : Nat} {e : E} (h : okS (.aug o i e) N nm x = true) : False := by
  cases x <;> cases h
theorem oks_nil (h : okSs .nil N nm xs = true) : xs = [] := by
  cases xs with
  | nil => rfl
  | cons a as => cases h
theorem oks_cons {s : S} {ss : Ss} (h : okSs (.cons s ss) N nm xs = true) : ∃ y ys, xs = y :: ys ∧ (okS s N nm y && okSs ss N nm ys) = true := by
  cases xs with
  | nil => cases h
  | cons a as => exact ⟨a, as, rfl, by simpa only [okSs] using h⟩
theorem noSw_ok {X : Cx} (n : NmOk X nm) {tg : Tg} {t ex : Expr} (ht : tgTup tg = true) (h5 : tgOk N nm tg t = true) (h : noSw nm t ex = true) : swappedStores [t] ex X.env = pure none := by
  obtain ⟨elts, kk, tpos, rfl⟩ : ∃ elts kk tpos, t = .Tuple elts kk tpos := by
    unfold tgOk at h5; split at h5 <;> first | exact ⟨_, _, _, rfl⟩ | cases ht | cases h5
  unfold noSw at h
  split at h
  · rename_i y p1 z p2 k1 p3 a b k2 p4 heq
    cases heq
    simp only [Bool.and_eq_true, Bool.or_eq_true, beq_iff_eq] at h
    obtain ⟨⟨h1, h2⟩, (h3 | h3) | h3⟩ := h
    · exact swapNo (.inl (n.cf _ (.inl h3))) h1 h2
    · exact swapNo (.inr (.inl (n.cf _ (.inl h3)))) h1 h2
    · exact swapNo (.inr (.inr (by rw [Bool.and_eq_true]; exact h3))) h1 h2
  · cases h
  · rename_i x0 x1 x2 hno x3
    generalize x0 = ex at hno ⊢
    cases ex <;> first | rfl | exact (hno _ _ _ rfl).elim
end

section
variable {X : Cx} {xi : XI} {W : WX} {lv : Nat} {N : List Str} {nm : Nms} {PP : Prog} {cf : Str → List PyEv.W → CRes} {keep : List Nat}
theorem All.tr {W' : WX} (A : All X xi W lv N nm PP cf) (pn : List (Addr × Obj)) (xe : Value → Shared → Prop) (tk : Takes (X.tr pn xe) W') : All (X.tr pn xe) xi W' lv N nm PP cf :=
  ⟨⟨A.c.calm, A.c.room, A.c.guards, A.c.nd, A.c.blt, A.c.sys⟩, A.hN, ⟨A.n.vis, A.n.gl, A.n.loc, A.n.cf⟩, A.d, tk, fun x d h => ⟨(A.hc x d h).ex⟩, ⟨A.ex.ad, A.ex.sup, A.ex.ve⟩, A.l2, A.hxi, A.hr, A.lam⟩
theorem SndS.ite {st : Stmt} {t : Bool} {r : Env → Fl} (h : t = true → SndS X xi W keep st r) : SndS X xi W keep st (fun env => if t = true then r env else .bad) := by
  cases t with
  | true => simpa using h rfl
  | false =>
    refine ⟨fun pins s σ H D I q => ?_⟩
    obtain ⟨_, _, _, _, fin⟩ := q
    have fin : FinS X.K X.w xi W keep _ _ _ _ (if false = true then _ else .bad) _ := fin
    rw [if_neg (by decide)] at fin
    exact fin.elim
mutual
theorem sS : ∀ (s : S) {st : Stmt}, All X (xiE X.K X.w) W lv N nm PP cf → StOk X nm → okS s N nm st = true → SndS X (xiE X.K X.w) W keep st (evS PP cf keep s)
  | .set i e, st, A, so, h0 => by
    obtain ⟨y, py, ex, pos, rfl, h⟩ := oks_set h0
    simp only [Bool.and_eq_true, decide_eq_true_eq] at h
    obtain ⟨⟨⟨h1, h2⟩, h3⟩, h4⟩ := h
    cases hc : isComp ex with
    | false => exact s_set A.c A.hN A.n h1 h2 (sE e A h4).s hc
    | true =>
      have lc : ∃ elt tg it cond own, e = .lc elt tg it cond own := by
        cases ex <;> cases hc <;> cases e <;> first | exact ⟨_, _, _, _, _, rfl⟩ | (simp [okE, plainX, isComp] at h4)
      obtain ⟨elt, tg, it, cond, own, rfl⟩ := lc
      have hs := (sE (keep := keep) (.lc elt tg it cond own) A h4).s
      obtain ⟨e', t, iter, ifs, ia, scope, cpos, rfl, g⟩ := ok_lc h4
      rw [Bool.and_eq_true, Bool.and_eq_true, Bool.and_eq_true, Bool.and_eq_true, Bool.and_eq_true, Bool.and_eq_true, Bool.and_eq_true, Bool.and_eq_true, Bool.and_eq_true, decide_eq_true_eq] at g
      obtain ⟨⟨⟨⟨⟨⟨⟨⟨⟨g1, gu⟩, g2⟩, g3⟩, g4⟩, g5⟩, g6⟩, g7⟩, g8⟩, g9⟩ := g
      subst g1
      cases hl : ((py.line == cpos.line) && !(scope.names.any fun (n, k) => n == y && (k == .local || k == .cell))) with
      | false => exact s_setLc0 A.c A.hN A.n h1 h2 (.inl hl) hs
      | true =>
        rw [Bool.and_eq_true, Bool.not_eq_true'] at hl
        unfold locB at h2
        split at h2
        · rename_i el
          exact s_setLc A.c so A.hN h1 el hl.1 hl.2 (lcS_of A gu g2 g4 g6 g8 (sIt it A g5 g9 g4) (fun s H C cl fp => sE elt (A.blk gu scope s H C cl fp) g3) fun c hc s H C cl fp => sE cond (A.blk gu scope s H C cl fp) hc)
        · rename_i el
          exact s_setLc0 A.c A.hN A.n h1 (by unfold locB; rw [el]) (.inr el) hs
        · cases h2
  | .par i j a b, st, A, so, h0 => by
    obtain ⟨y, py, z, pz, k1, p1, v, u, k2, p2, pos, rfl, h⟩ := oks_par h0
    simp only [Bool.and_eq_true, Bool.not_eq_true', Bool.and_eq_false_iff, decide_eq_true_eq] at h
    obtain ⟨⟨⟨⟨⟨⟨⟨⟨⟨⟨h1, h2⟩, h3⟩, h4⟩, h5⟩, h6⟩, h7⟩, h8⟩, h9⟩, h10⟩, h11⟩ := h
    have pv := okE_plain h8
    have pu := okE_plain h9
    exact impS (ps_par A.c.calm A.c.nd (by rw [A.hN]; exact h1) (by rw [A.hN]; exact h2) h3 (so.lc _ h4) (so.lc _ h5) (pa_cons (sE a A h8).s.pe (pa_cons (sE b A h9).s.pe pa_nil (starEach_plain pu)) (starEach_plain pv))
      (swapYes so.kind (so.lc _ h4) (so.lc _ h5) h6 (by simpa using h7) pv pu (by rcases h10 with h | h <;> simp [h]) (by rcases h11 with h | h <;> simp [h]))) fun Z σ H q => par_run q
  | .unp tg e, st, A, so, h0 => by
    obtain ⟨t, ex, pos, rfl, h⟩ := oks_unp h0
    simp only [Bool.and_eq_true, Bool.not_eq_true'] at h
    obtain ⟨⟨⟨⟨h1, h2⟩, h3⟩, h4⟩, h5⟩ := h
    exact s_unp A.c A.hN A.n h1 (sE e A h3).s h4 (noSw_ok A.n h2 h1 h5)
  | .setix i ie e, st, A, so, h0 => by
    obtain ⟨y, p1, iex, p2, ex, pos, rfl, h⟩ := oks_setix h0
    rw [Bool.and_eq_true, Bool.and_eq_true, Bool.and_eq_true, Bool.and_eq_true, Bool.not_eq_true'] at h
    obtain ⟨⟨⟨⟨h1, h2⟩, h3⟩, h4⟩, h5⟩ := h
    exact s_setix A.c A.hN A.n h1 (sE e A h4).s (sE ie A h2).s h3 h5
  | .aug o i e, st, A, so, h0 => (oks_aug h0).elim
  | .ret e, st, A, so, h0 => by
    rcases oks_ret h0 with ⟨ex, pos, rfl, h⟩ | ⟨rfl, pos, rfl⟩
    · exact s_ret (sE e A h).s.pe
    · exact s_retN
  | .ife c a b, st, A, so, h0 => by
    obtain ⟨t, p, q, pos, rfl, h⟩ := oks_ife h0
    simp only [Bool.and_eq_true] at h
    exact s_if (sE c A h.1.1).s (sSs a A so h.1.2) (sSs b A so h.2)
  | .for tg it body, st, A, so, h0 => by
    obtain ⟨t, iter, b, pos, rfl, h⟩ := oks_for h0
    simp only [Bool.and_eq_true] at h
    obtain ⟨⟨⟨⟨h1, h2⟩, h3⟩, h4⟩, h5⟩ := h
    exact s_for A.c so A.hN A.n h1 (sIt it A h2 h5 h1) (sSs body A so h4) h3
  | .whl c body, st, A, so, h0 => by
    obtain ⟨t, b, pos, rfl, h⟩ := oks_whl h0
    rw [Bool.and_eq_true] at h
    exact s_whl so (sE c A h.1).s (sSs body A so h.2)
  | .expr e, st, A, so, h0 => by
    obtain ⟨ex, pos, rfl, h⟩ := oks_expr h0
    rw [Bool.and_eq_true, Bool.not_eq_true'] at h
    exact s_expr (sE e A h.1).s h.2
  | .raise c e, st, A, so, h0 => by
    obtain ⟨k, p1, ex, p2, p3, rfl, h⟩ := oks_raise h0
    simp only [Bool.and_eq_true, decide_eq_true_eq] at h
    obtain ⟨⟨⟨rfl, h2⟩, h3⟩, h4⟩ := h
    exact SndS.ite fun hk => s_raise A.c A.l2 A.ex A.n A.tk hk h2 h3 (okE_plain h4) (sE e A h4).s
  | .tryset i e n m, st, A, so, h0 => by
    obtain ⟨x', q1, ex, q2, t, p1, y, z, p2, y2, p3, p4, p5, p6, rfl, h⟩ := oks_tryset h0
    simp only [Bool.and_eq_true, Bool.not_eq_true', decide_eq_true_eq] at h
    obtain ⟨⟨⟨⟨⟨⟨⟨⟨⟨⟨⟨h1, h2⟩, h3⟩, h4⟩, h5⟩, h6⟩, h7⟩, rfl⟩, h9⟩, h10⟩, h11⟩, h12⟩ := h
    exact SndS.ite fun hk => s_try A.c A.ex hk A.n A.hN so.st so.fr so.ex h1 h2 h3 h4 (so.lc _ h5) (so.lc _ h6) h7 fun W' pn xe tk ps =>
      s_set (X := X.tr pn xe) (N := N) (nm := nm) (lv := lv) ⟨A.c.calm, A.c.room, A.c.guards, A.c.nd, A.c.blt, A.c.sys⟩ A.hN ⟨A.n.vis, A.n.gl, A.n.loc, A.n.cf⟩ h9 h10 (sE (X := X.tr pn xe) e (A.tr pn xe tk) h12).s h11
  | .tryraise c e n m, st, A, so, h0 => by
    obtain ⟨k, q1, ex, q2, q3, t, p1, y, z, p2, y2, p3, p4, p5, p6, rfl, h⟩ := oks_tryraise h0
    simp only [Bool.and_eq_true, decide_eq_true_eq] at h
    obtain ⟨⟨⟨⟨⟨⟨⟨⟨⟨⟨⟨h1, h2⟩, h3⟩, h4⟩, h5⟩, h6⟩, h7⟩, rfl⟩, rfl⟩, h10⟩, h11⟩, h12⟩ := h
    refine SndS.ite fun hk => ?_
    obtain ⟨_, _, _, htu, _⟩ := A.ex.get hk
    exact s_try A.c A.ex htu A.n A.hN so.st so.fr so.ex h1 h2 h3 h4 (so.lc _ h5) (so.lc _ h6) h7 fun W' pn xe tk ps =>
      s_raise (X := X.tr pn xe) (nm := nm) (lv := lv) (A.tr pn xe tk).c A.l2 (A.tr pn xe tk).ex (A.tr pn xe tk).n tk hk h10 h11 (okE_plain h12) (sE (X := X.tr pn xe) e (A.tr pn xe tk) h12).s
  | .pass, st, A, so, h0 => by
    rcases oks_pass h0 with ⟨pos, rfl⟩ | ⟨z, j, p, pos, rfl⟩
    · exact s_pass
    · exact s_doc
  | .never, st, A, so, h0 => impS ps_never fun Z σ H q => by
    obtain ⟨Hf, env, L, s0, fin⟩ := q
    exact fin
theorem sSs : ∀ (ss : Ss) {sts : List Stmt}, All X (xiE X.K X.w) W lv N nm PP cf → StOk X nm → okSs ss N nm sts = true → SndSs X (xiE X.K X.w) W keep sts (evSs PP cf keep ss)
  | .nil, sts, A, so, h => by
    rw [oks_nil h]
    exact ss_nil
  | .cons s ss, sts, A, so, h0 => by
    obtain ⟨y, ys, rfl, h⟩ := oks_cons h0
    rw [Bool.and_eq_true] at h
    exact ss_cons (sS s A so h.1) (sSs ss A so h.2)
end
end
end PyEv

set_option maxRecDepth 100000
set_option maxHeartbeats 4000000
/-! PyP: every def keeps its promise. -/
namespace PyEv
open PySem L2
variable [TabL]

/-- a def of the text, checked -/
structure DefOk (K : PySem.W.Frag) (mg : Str → Option Value) (f : Str) (fn : Fn) : Prop where
  ex : ∃ a fd st N ps, mg f = some (.ref a) ∧ L2.Fun K f f st a fd ∧ Binds K fd ps [] ∧ FnScope N ps (defScope st) ∧ ps.length = fn.n ∧ N.length = fn.m ∧ (∀ i ∈ fn.keep, i < fn.n) ∧ okSs fn.body N (defScope st).names (defBody st) = true
structure ConstM (K : PySem.W.Frag) (w : World) (mg : Str → Option Value) (x : Str) (d : D) : Prop where
  ex : ∃ u v, mg x = some u ∧ RelV v u ∧ ∀ Hf, Den K w Hf d v

theorem sl_start : ∀ (ws : List PyEv.W) (vs : List V) (k : Nat), ws.length = vs.length → Sl (ws.map some ++ List.replicate k none) (vs.map some ++ List.replicate k none) (ws.zip vs)
  | [], [], 0, _ => .nil
  | [], [], k + 1, h => .skip (sl_start [] [] k h)
  | [], _ :: _, _, h => by simp at h
  | _ :: _, [], _, h => by simp at h
  | w :: ws, v :: vs, k, h => .cons (sl_start ws vs k (by simpa using h))

section
variable {P : Program} {w : World} {K : PySem.W.Frag} {mg : Str → Option Value} {base : Heap} {xi : XI} {PP : Prog}
/-- the tables of the defs, of a text with lambdas -/
structure LamW (K : PySem.W.Frag) (mg : Str → Option Value) (base : Heap) (PP : Prog) : Prop where
  hr : ∀ h, PP.hears.contains h = true → HearOk K mg h
  bs : PP.hears ≠ [] → K.In base ∧ base.Ns mainGlobals mg
  tab : PP.hears ≠ [] → ∀ f fn, PP.fns.lookup f = some fn → ∃ c P, PySem.W.tabIn K f = some (c, P) ∧ LamX.TabB base mg c P ∧ (P, f ++ ".<locals>." ++ "<lambda>") ∈ TabL.T ∧ ∀ p ∈ TabL.T, p.1 = P → p.2 = f ++ ".<locals>." ++ "<lambda>"
theorem defW_all (hlm : LamW K mg base PP) (hd : ∀ f fn, PP.fns.lookup f = some fn → DefOk K mg f fn) (hb : ∀ b ∈ bltNames, mg (Str.ofString b) = none) (hc : ∀ x d, PP.consts.lookup x = some d → ConstM K w mg x d) (hx : ExcsOk P K mg PP.excs) (hsy : ∃ o, base.get? sysModules = some o) :
    ∀ n, DefW P w K mg base (xiE K w) PP (callF PP n) (3 * n + 2)
  | 0 => ⟨fun f fn e => by
    obtain ⟨a, fd, st, N, ps, h1, h2, h3, h4, h5, h6, h7, h8⟩ := (hd f fn e).ex
    refine ⟨a, fd, ps, h1, h2.kp, h3, ⟨fun vs H Q E z => ?_, fun A outer s H args us vs Q E _ _ _ _ _ z => ?_⟩⟩
    · obtain ⟨Hf, ws, _, _, _, fin⟩ := z; exact (show False from fin).elim
    · obtain ⟨Hf, ws, _, _, _, fin⟩ := z; exact (show False from fin).elim⟩
  | n + 1 => ⟨fun f fn e => by
    have ih := defW_all hlm hd hb hc hx hsy n
    obtain ⟨a, fd, st, N, ps, h1, h2, h3, S, h5, h6, h7, h8⟩ := (hd f fn e).ex
    have call_eq : ∀ ws, callF PP (n + 1) f ws = if ws.length = fn.n then finC (evSs PP (callF PP n) fn.keep fn.body (ws.map some ++ List.replicate (fn.m - fn.n) none)) else .bad := fun ws => by
      show (match PP.fns.lookup f with | none => CRes.bad | some fn => if ws.length = fn.n then finC (evSs PP (callF PP n) fn.keep fn.body (ws.map some ++ List.replicate (fn.m - fn.n) none)) else .bad) = _
      rw [e]
    have len : ∀ vs H Q E, spF K w (xiE K w) (callF PP (n + 1)) f fn.keep vs H Q E → vs.length = fn.n := fun vs H Q E z => by
      obtain ⟨Hf, ws, hl, _, _, fin⟩ := z
      rw [call_eq] at fin
      by_cases q : ws.length = fn.n
      · rw [← hl]; exact q
      · rw [if_neg q] at fin; exact (show False from fin).elim
    refine ⟨a, fd, ps, h1, h2.kp, h3, fnG_of h2 S (fun vs H Q E z => by rw [h5]; exact len vs H Q E z) fun cdv A outer s H vs Q E hcv hg (hr : Room (3 * n + 4) _) z => ?_⟩
    have hvl := len vs H Q E z
    obtain ⟨Hf, ws, hl, same, fam, fin⟩ := z
    rw [call_eq, if_pos (by rw [hl]; exact hvl)] at fin
    generalize eX : cxOf (L2.CX P w) P w K mg base N f (defScope st) a cdv A outer s H E = X
    have A0 : All X (xiE X.K X.w) (fun cls dd _ H' => E cls dd H') (3 * n + 2) N (defScope st).names PP (callF PP n) := by
      subst eX
      refine ⟨⟨rfl, hr.mono (by omega), hg, S.nd, hb, hsy⟩, rfl, ⟨fun x h => ?_, fun x h => ?_, fun x h => ?_, fun x h => h⟩, ih, takes_of rfl rfl rfl rfl, fun x d h => ⟨(hc x d h).ex⟩, ⟨hx.ad, hx.sup, hx.ve⟩, by omega, rfl, hlm.hr, fun z _ => ?_⟩
      · unfold visB at h
        split at h
        · rename_i q; exact .inl q
        · rename_i q; exact .inr (.inl q)
        · rename_i q; exact .inr (.inr q)
        · cases h
      · unfold glB at h
        split at h
        · rename_i q; exact q
        · cases h
      · unfold locB at h
        split at h
        · rename_i q; exact ⟨.inl q, .inl rfl⟩
        · rename_i q; exact ⟨.inr q, .inl rfl⟩
        · cases h
      · obtain ⟨b1, b2⟩ := hlm.bs z
        obtain ⟨c, P', t1, t2, t3, t4⟩ := hlm.tab z f fn e
        exact ⟨hr, c, P', hcv base c P' b1 b2 h1 t1, t2, t3, t4⟩
    have so : StOk X (defScope st).names := by
      subst eX
      exact ⟨S.kind, passes_of rfl, fun x h => h, rfl, rfl, rfl⟩
    have snd : PSs X (defBody st) (tSG X.K X.w (xiE X.K X.w) (fun cls dd _ H' => E cls dd H') fn.keep (evSs PP (callF PP n) fn.keep fn.body)) := sSs (keep := fn.keep) fn.body A0 so h8
    subst eX
    refine ⟨tSG K w (xiE K w) (fun cls dd _ H' => E cls dd H') fn.keep (evSs PP (callF PP n) fn.keep fn.body), snd, Hf, ws.map some ++ List.replicate (fn.m - fn.n) none, ws.zip vs, ⟨?_, fam, same⟩, ?_⟩
    · unfold L2.start
      rw [h6, hvl]
      exact sl_start ws vs _ hl
    · have kp : ∀ σ', Kept fn.keep (L2.start N vs) σ' → ∀ i ∈ fn.keep, σ'[i]? = (vs.map some)[i]? := fun σ' k i hi => by
        rw [k i hi]
        unfold L2.start
        rw [List.getElem?_append_left (by rw [List.length_map, hvl]; exact h7 i hi)]
      cases ef : evSs PP (callF PP n) fn.keep fn.body (ws.map some ++ List.replicate (fn.m - fn.n) none) with
      | bad => rw [ef] at fin; exact fin
      | bk env => rw [ef] at fin; exact (show False from fin).elim
      | ct env => rw [ef] at fin; exact (show False from fin).elim
      | nx env =>
        rw [ef] at fin
        exact fun σ' Hg H' L' a b c k => fin σ' .non Hg H' L' a (kp σ' k) (b.less fun q hq => by
          rcases Owned.cons.mp hq with hq | hq
          · cases hq
          · exact hq) (c.cons_d .non)
      | rt x env =>
        rw [ef] at fin
        exact fun σ' v Hg H' L' a b c k => fin σ' v Hg H' L' a (kp σ' k) b c
      | ex x env =>
        rw [ef] at fin
        exact fun σ' Hg H' L' cls dd a b c k hx => fin σ' Hg H' L' cls dd a (kp σ' k) b c hx⟩

/-- without the tables -/
def noTab (H : Hp) : Hp := fun b => match H b with
  | some (.tbl _) => none
  | o => o
theorem noTab_no {H : Hp} {b : Addr} {o : HO} (h : noTab H b = some o) : NoT o := by
  unfold noTab at h
  split at h
  · cases h
  · rename_i n
    intro ps z
    exact n ps (by rw [h, z])
theorem noTab_same {H : Hp} : Same (noTab H) H := fun b o h => by
  unfold noTab at h
  split at h
  · cases h
  · exact h
theorem noTab_of {H : Hp} {b : Addr} {o : HO} (h : H b = some o) (n : NoT o) : noTab H b = some o := by
  unfold noTab
  split
  · rename_i ps z
    exact absurd (Option.some.inj (h.symm.trans z)) (n ps)
  · exact h
/-- the law's def, asked for a script: what the evaluator says of it is the promise -/
theorem law_sp {law : Str} {n : Nat} {fn : Fn} {a : Addr} {ns : List Int} {H : Hp} {outs : Env} (e : callF PP n law [.d (.scr ns)] = .ok (.d (.bl true)) outs) (hs : SqL K H a (ns.map V.int)) (ht : LamX.Tabs TabL.T H) :
    spF K w xi (callF PP n) law fn.keep [.ref a] H (fun v _ => v = .bl true) (fun _ _ _ => False) := by
  have hs' : SqL K (noTab H) a (ns.map V.int) := by
    rcases hs with (h | ⟨o, h⟩) | h
    · exact .inl (.inl (noTab_of h fun _ z => by cases z))
    · exact .inl (.inr ⟨o, noTab_of h fun _ z => by cases z⟩)
    · exact .inr h
  refine ⟨noTab H, [.d (.scr ns)], rfl, noTab_same, ?_, ?_⟩
  · exact (Fam.nil ht fun b o q => noTab_no q).cons_d (.scr hs')
  · rw [e]
    intro σ' v Hg H' L' _ _ _ f
    have := f.rep _ List.mem_cons_self
    cases this with
    | d h => cases h; rfl
end
end PyEv

set_option maxRecDepth 100000
set_option maxHeartbeats 4000000
/-! PyEnd: the law. -/
namespace PyEv
open PySem L2
variable [TabL]

open PySem.Spec PyProof.Rows in
/-- the law's call from the outermost caller: a promise that asks guards = []; cs, the code objects and their tables -/
theorem law_end {P : Program} {w : World} {K : PySem.W.Frag} {mg mb : Str → Option Value} {k : Nat} {fa a : Addr} {cs : List (Addr × Addr)} {sp : Sp} {s₁ : Shared} {vs : List Value} {ns : List Int}
    (KX : K.In s₁.heap) (hns : s₁.heap.Ns mainGlobals mg) (hb : s₁.heap.Ns builtinsNs mb) (hbb : ∀ x : Str, x ≠ "__name__" → mb x = bootBuiltins x) (hlim : s₁.heap.NoLimit) (hg : s₁.gens = #[])
    (tb : ∀ p ∈ cs, s₁.heap.get? p.2 = some { cls := .none, data := .fields #[] } ∧ K.lookup p.2 = none ∧ PySem.W.CodeHd s₁.heap p.1 p.2)
    (hbm : ∃ (bm : Addr) (ob : Obj), mg "__builtins__" = some (.ref bm) ∧ bm ≠ builtinsNs ∧ s₁.heap.get? bm = some ob ∧ ob.cls = .type "module" ∧ ob.dict = some builtinsNs ∧ ob.data = .plain)
    (ha : s₁.heap.get? a = some { cls := .type "list", data := .seq vs.toArray }) (hi : IntsAre vs ns) (hl : ns.length ≤ sizeLine) (hr : Room k callerA)
    (hsy : ∃ mm, s₁.heap.Ns sysModules mm) (F : ∀ base : Heap, K.In base → base.Ns mainGlobals mg → (∃ o, base.get? sysModules = some o) → (∀ p ∈ cs, LamX.TabB base mg p.1 p.2) → ∃ fd ps, Binds K fd ps [] ∧ FnG P w K mg base k fa fd ps sp)
    (hsp : ∀ H : Hp, (∀ p ∈ cs, H p.2 = some (.tbl #[])) → SqL K H a (ns.map V.int) → sp [.ref a] H (fun v _ => v = .bl true) fun _ _ _ => False) :
    codeAny (model P w) callerA (.call (.ref fa) ⟨[.ref a], []⟩) (fun r s' => r = .ok (.ret (.bool true)) ∧ OldK s₁.heap s'.heap ∧ s'.os = s₁.os ∧ AllBare s'.gens) s₁ := by
  have at_ : ∀ b, b ∈ cs.map (·.2) → s₁.heap.get? b = some { cls := .none, data := .fields #[] } ∧ K.lookup b = none := fun b q => by
    obtain ⟨p, hp, rfl⟩ := List.mem_map.mp q
    exact ⟨(tb p hp).1, (tb p hp).2.1⟩
  have na : a ∉ cs.map (·.2) := fun q => by
    have q := (at_ a q).1
    rw [ha] at q
    have q' : Data.seq vs.toArray _ = Data.fields #[] := congrArg Obj.data (Option.some.inj q)
    cases q'
  have mt : ∀ p ∈ cs, p.2 ∈ cs.map (·.2) := fun p hp => List.mem_map.mpr ⟨p, hp, rfl⟩
  -- the tables are tracked, and the script, if the module does not know it
  obtain ⟨H, hT, hO, hS, hok, hA⟩ : ∃ H : Hp, (∀ b ∈ cs.map (·.2), H b = some (.tbl #[])) ∧ (∀ b, H b = none ∨ b ∈ cs.map (·.2) ∨ ∃ o xs, H b = some (.frz o (.lst xs))) ∧ SqL K H a (ns.map V.int) ∧ HOk P w H s₁.heap ∧ ∀ b, H b ≠ none → b ∈ cs.map (·.2) ∨ b = a ∧ K.lookup a = none := by
    have rv := vals_ints hi
    have tk : ∀ b, b ∈ cs.map (·.2) → s₁.heap.get? b = some { cls := .none, data := .fields #[] } := fun b q => (at_ b q).1
    cases hk : K.lookup a with
    | some o =>
      have e := KX a o hk
      rw [ha] at e
      cases e
      refine ⟨fun b => if b ∈ cs.map (·.2) then some (.tbl #[]) else none, fun b q => if_pos q, fun b => ?_, .inr ⟨_, vs.toArray, _, hk, rfl, rfl, rfl, by rw [List.size_toArray, hi.length]; exact hl, by simpa using rv⟩, fun b u z => ?_, fun b z => ?_⟩
      · by_cases q : b ∈ cs.map (·.2)
        · exact .inr (.inl q)
        · exact .inl (if_neg q)
      · by_cases q : b ∈ cs.map (·.2)
        · cases (if_pos q).symm.trans z
          exact tk b q
        · cases (if_neg q).symm.trans z
      · by_cases q : b ∈ cs.map (·.2)
        · exact .inl q
        · exact absurd (if_neg q) z
    | none =>
      refine ⟨fun b => if b ∈ cs.map (·.2) then some (.tbl #[]) else if b = a then some (.frz { cls := .type "list", data := .seq vs.toArray } (.lst (ns.map V.int))) else none, fun b q => if_pos q, fun b => ?_, .inl (.inr ⟨{ cls := .type "list", data := .seq vs.toArray }, (if_neg na).trans (if_pos rfl)⟩), fun b u z => ?_, fun b z => ?_⟩
      · by_cases q : b ∈ cs.map (·.2)
        · exact .inr (.inl q)
        · by_cases q2 : b = a
          · exact .inr (.inr ⟨_, _, (if_neg q).trans (if_pos q2)⟩)
          · exact .inl ((if_neg q).trans (if_neg q2))
      · by_cases q : b ∈ cs.map (·.2)
        · cases (if_pos q).symm.trans z
          exact tk b q
        · have z := (if_neg q).symm.trans z
          by_cases q2 : b = a
          · cases (if_pos q2).symm.trans z
            subst q2
            exact ⟨ha, by rw [List.length_map]; exact hl, vs, _, rv, ha⟩
          · cases (if_neg q2).symm.trans z
      · by_cases q : b ∈ cs.map (·.2)
        · exact .inl q
        · by_cases q2 : b = a
          · exact .inr ⟨q2, rfl⟩
          · exact absurd ((if_neg q).trans (if_neg q2)) z
  have free : ∀ {b : Addr} {o : Obj}, s₁.heap.get? b = some o → (∀ vs n, o.data ≠ .seq vs n) → o.data ≠ .fields #[] → H b = none := fun {b o} e n1 n2 => by
    cases q : H b with
    | none => rfl
    | some u =>
      rcases hA b (by rw [q]; simp) with z | ⟨rfl, _⟩
      · rw [(at_ b z).1] at e; cases e; exact absurd rfl n2
      · rw [ha] at e; cases e; exact absurd rfl (n1 _ _)
  have keepB : ∀ {b : Addr} {o : Obj}, s₁.heap.get? b = some o → (∀ vs n, o.data ≠ .seq vs n) → o.data ≠ .fields #[] → (hidT s₁.heap H).get? b = some o := fun e n1 n2 => hidT_get e (free e n1 n2)
  have nsH : ∀ {b : Addr} {m : Str → Option Value}, s₁.heap.Ns b m → (hidT s₁.heap H).Ns b m := fun {b m} ⟨o, es, ep, e, d, r⟩ => ⟨o, es, ep, keepB e (fun vs n z => by rw [d] at z; cases z) (fun z => by rw [d] at z; cases z), d, r⟩
  have kin : K.In (hidT s₁.heap H) := fun b o e => hidT_get (KX b o e) (by
    cases q : H b with
    | none => rfl
    | some u =>
      rcases hA b (by rw [q]; simp) with z | ⟨rfl, z⟩
      · rw [(at_ b z).2] at e; cases e
      · rw [z] at e; cases e)
  have M : Mod K mg (hidT s₁.heap H) := ⟨kin, nsH hns, ⟨mb, nsH hb, hbb⟩, let ⟨mc, h1, h2⟩ := hlim; ⟨mc, nsH h1, h2⟩⟩
  have TB : ∀ p ∈ cs, LamX.TabB (hidT s₁.heap H) mg p.1 p.2 := fun p hp => by
    obtain ⟨t1, t2, t3⟩ := tb p hp
    refine ⟨?_, ?_, fun z => ?_⟩
    · obtain ⟨o, us, file, tf, flags, tg, inF, text, tt, e1, u1, u2, u3, u⟩ := t3
      exact ⟨o, us, file, tf, flags, tg, inF, text, tt, keepB e1 (fun vs n z => by rw [u2] at z; cases z) (fun z => by rw [u2] at z; cases z; simp at u3), u1, u2, u3, u⟩
    · obtain ⟨bm, ob, b1, b2, b3, b4, b5, b6⟩ := hbm
      refine ⟨bm, ob, b1, b2, fun q => ?_, fun q => ?_, keepB b3 (fun vs n z => by rw [b6] at z; cases z) (fun z => by rw [b6] at z; cases z), b4, b5, b6⟩
      · obtain ⟨o, es, ep, e, hd, _⟩ := hns
        rw [q, e] at b3; cases b3
        rw [hd] at b6; cases b6
      · rw [q, t1] at b3; cases b3; cases b6
    · obtain ⟨o, es, ep, e, hd, _⟩ := hns
      rw [z, t1] at e; cases e; cases hd
  have e0 : Env0 P w K mg (hidT s₁.heap H) callerA [] s₁ H := ⟨rfl, M, fun b o e => of_hidT e, Nat.le_of_eq (hidT_size _ _), trivial, (fun b hb => nomatch (show b ∈ ([] : List Addr) from hb)), hok, .of_eq hg⟩
  obtain ⟨fd, ps, hbind, F⟩ := F _ kin (nsH hns) (by obtain ⟨mm, h⟩ := hsy; obtain ⟨o, _, _, e, _⟩ := nsH h; exact ⟨o, e⟩) TB
  have hq := hsp H (fun p hp => hT _ (mt p hp)) hS
  have bd := hbind s₁ [.ref a] KX (F.len _ _ _ _ hq)
  refine codeAny_mono (F.run callerA [] s₁ H ⟨[.ref a], []⟩ [.ref a] [.ref a] _ _ rfl hr e0 bd (.cons rfl .nil) hq) fun r s' h => ?_
  cases r with
  | error e =>
    obtain ⟨_, _, _, _, _, _, _, _, _, _, _, _, z⟩ := h
    exact z.elim
  | ok fl =>
    cases fl with
    | next => exact False.elim h
    | brk => exact False.elim h
    | cont => exact False.elim h
    | ret u =>
      obtain ⟨v, H', os, bare, un, hok', r', q⟩ := h
      have q' : v = .bl true := q
      subst q'
      obtain rfl : u = Value.bool true := r'
      have old : ∀ b o, b ∉ cs.map (·.2) → s₁.heap.get? b = some o → s'.heap.get? b = some o := fun b o nb e => by
        cases q : H b with
        | none => exact un.keep b o e q (fun z => nomatch (show b ∈ ([] : List Addr) from z)) (by simp)
        | some u =>
          rcases hO b with z | z | ⟨ob, xs, z⟩
          · rw [q] at z; cases z
          · exact absurd z nb
          · have z2 := un.frzs b ob _ z
            obtain ⟨e1, _⟩ := hok b _ z
            obtain ⟨e2, _⟩ := hok' b _ z2
            rw [e] at e1; cases e1
            exact e2
      have grown : ∀ p ∈ cs, ∃ more : Array Value, s'.heap.get? p.2 = some { cls := .none, data := .fields more } := fun p hp => by
        obtain ⟨more, z⟩ := un.tbls p.2 #[] (hT _ (mt p hp))
        exact ⟨_, hok' p.2 _ z⟩
      refine ⟨rfl, ⟨fun b o e => ?_, fun b o e => ?_⟩, os, bare⟩
      · by_cases hb : b ∈ cs.map (·.2)
        · obtain ⟨p, hp, rfl⟩ := List.mem_map.mp hb
          obtain ⟨more, hm⟩ := grown p hp
          rw [(tb p hp).1] at e; cases e
          exact .inr (.inl ⟨((tb p hp).2.2.tab (tb p hp).1).isCodeTable, rfl, #[], more, rfl, by rw [Array.empty_append]; exact hm⟩)
        · exact .inl (old b o hb e)
      · by_cases hb : b ∈ cs.map (·.2)
        · obtain ⟨p, hp, rfl⟩ := List.mem_map.mp hb
          obtain ⟨more, hm⟩ := grown p hp
          exact ⟨_, hm⟩
        · exact ⟨o, old b o hb e⟩

/-- the tables of the defs of these names -/
def tabsOf (K : PySem.W.Frag) (names : List Str) : List (Addr × Addr × Str) := names.filterMap fun x => (PySem.W.tabIn K x).map fun p => (p.1, p.2, x)
def tabsB (K : PySem.W.Frag) (q : Program) (PP : Prog) (names : List Str) : Bool :=
  (PP.hears.isEmpty || PP.fns.all fun f => names.contains f.1 && (PySem.W.tabIn K f.1).isSome) &&
  ((tabsOf K names).all fun p => (K.lookup p.2.1).isNone && ((PyProof.Rows.recsOf q).find? (fun e => e.name == p.2.2)).isSome) &&
  (tabsOf K names).all fun p => (tabsOf K names).all fun r => !decide (p.2.1 = r.2.1) || decide (p.2.2 = r.2.2)
theorem mem_lookup_fst {α : Type} {f : Str} {a : α} : ∀ {l : List (Str × α)}, l.lookup f = some a → (f, a) ∈ l
  | [], h => by cases h
  | (x, b) :: r, h => by
    rw [List.lookup_cons] at h
    split at h
    · rename_i hx
      have hx := beq_iff_eq.mp hx
      subst hx; cases h
      exact List.mem_cons_self
    · exact List.mem_cons_of_mem _ (mem_lookup_fst h)
/-- the tables of the defs that have lambdas -/
structure LamTop (cs : List (Addr × Addr × Str)) (K : PySem.W.Frag) (q : Program) (PP : Prog) : Prop where
  tab : ∀ p ∈ cs, PySem.W.tabIn K p.2.2 = some (p.1, p.2.1) ∧ K.lookup p.2.1 = none ∧ ∃ d, (PyProof.Rows.recsOf q).find? (fun e => e.name == p.2.2) = some d
  all : PP.hears ≠ [] → ∀ f fn, PP.fns.lookup f = some fn → ∃ c P, (c, P, f) ∈ cs
  uniq : ∀ p ∈ cs, ∀ r ∈ cs, p.2.1 = r.2.1 → p.2.2 = r.2.2
theorem lamTop {K : PySem.W.Frag} {q : Program} {PP : Prog} {names : List Str} (h : tabsB K q PP names = true) : LamTop (tabsOf K names) K q PP := by
  unfold tabsB at h
  rw [Bool.and_eq_true, Bool.and_eq_true, Bool.or_eq_true, List.all_eq_true, List.all_eq_true, List.all_eq_true] at h
  obtain ⟨⟨h1, h2⟩, h3⟩ := h
  refine ⟨fun p hp => ?_, fun z f fn e => ?_, fun p hp r hr e => ?_⟩
  · have a := h2 p hp
    rw [Bool.and_eq_true, Option.isNone_iff_eq_none, Option.isSome_iff_exists] at a
    refine ⟨?_, a.1, a.2⟩
    obtain ⟨x, _, hx⟩ := List.mem_filterMap.mp hp
    cases e : PySem.W.tabIn K x with
    | none => rw [e] at hx; cases hx
    | some u =>
      rw [e] at hx
      cases hx
      exact e
  · rcases h1 with h1 | h1
    · exact absurd (List.isEmpty_iff.mp h1) z
    · have a := h1 _ (mem_lookup_fst e)
      rw [Bool.and_eq_true, Option.isSome_iff_exists] at a
      obtain ⟨a1, ⟨c, P⟩, a2⟩ := a
      exact ⟨c, P, List.mem_filterMap.mpr ⟨f, List.contains_iff_mem.mp a1, by show (PySem.W.tabIn K f).map _ = _; rw [a2]; rfl⟩⟩
  · have a := List.all_eq_true.mp (h3 p hp) r hr
    rw [Bool.or_eq_true, Bool.not_eq_true', decide_eq_false_iff_not, decide_eq_true_eq] at a
    rcases a with a | a
    · exact absurd e a
    · exact a
/-- what the module's top gives -/
structure Top (P : Program) (K : PySem.W.Frag) (w : World) (mg : Str → Option Value) (PP : Prog) : Prop where
  exc : ExcsOk P K mg PP.excs
  fns : ∀ f fn, PP.fns.lookup f = some fn → DefOk K mg f fn
  blt : ∀ b ∈ bltNames, mg (Str.ofString b) = none
  con : ∀ x d, PP.consts.lookup x = some d → ConstM K w mg x d
omit [TabL] in
/-- THE END of a law: its text as the evaluator has it, and what the evaluator says of it for every script -/
theorem walk {l : PySem.W.OpenLaw} {n k : Nat} {q : Program} {loose : List Str} {XP : (Str → Option Value) → Heap → Prop} {YP : World → Heap → Prop} {d : PySem.DefRec} {K : Params → PySem.W.Frag} (PP : Prog) (fn : Fn) (names : List Str)
    (hseer : PyProof.Rows.importsNone q = true) (hn : l.most = some n) (hn2 : n ≤ sizeLine) (hdf : d.params.defaults = []) (hr : Room (3 * k + 2) callerA) (hY : ∀ (w : World) (h : Heap), YP w h → (K w.params).In h) (hB : ∀ w : World, tabsB (K w.params) q PP names = true)
    (T : ∀ [TabL] (w : World) (mg : Str → Option Value) (h : Heap), (K w.params).In h → h.Ns mainGlobals mg → Top l.prog (K w.params) w mg PP ∧ ∀ h, PP.hears.contains h = true → HearOk (K w.params) mg h) (hf : PP.fns.lookup d.name = some fn)
    (hE : ∀ ns : List Int, ns.length ≤ n → ∃ outs, callF PP k d.name [.d (.scr ns)] = .ok (.d (.bl true)) outs) :
    PySem.W.WalkO q loose XP YP l.row.toRowW d [] (fun f vs => PySem.call f vs) := by
  refine Att.attach_call hn hdf fun w s₀ s₁ mg mb fa o pm cd doc a vs ns G Y ho hd hcd hmg hobj hints hlen hg => ?_
  have KX := hY w _ Y
  letI : TabL := ⟨tabsOf (K w.params) names⟩
  have U : LamTop TabL.cs (K w.params) q PP := lamTop (hB w)
  obtain ⟨T, hH⟩ := T w mg _ KX G.T.g
  obtain ⟨outs, hE⟩ := hE ns hlen
  have tabs : ∀ p ∈ TabL.cs.map fun p => (p.1, p.2.1), s₁.heap.get? p.2 = some { cls := .none, data := .fields #[] } ∧ (K w.params).lookup p.2 = none ∧ PySem.W.CodeHd s₁.heap p.1 p.2 := fun p hp => by
    obtain ⟨r, hr, rfl⟩ := List.mem_map.mp hp
    obtain ⟨t1, t2, d', t3⟩ := U.tab r hr
    obtain ⟨c1, c2⟩ := PySem.W.tab_of G.T KX t3 t1
    exact ⟨c2, t2, c1⟩
  refine law_end (k := 3 * k + 2) (cs := TabL.cs.map fun p => (p.1, p.2.1)) (sp := spF (K w.params) w (xiE (K w.params) w) (callF PP k) d.name fn.keep) KX G.T.g G.T.b G.T.builtins G.T.nolimit hg tabs G.T.bmain hobj hints (Nat.le_trans hlen hn2) hr (by obtain ⟨mm, h, _⟩ := (G.T.seer hseer).mods; exact ⟨mm, h⟩) (fun base hb hns hsy TB => ?_) fun H hO hS => law_sp hE hS fun p hp => ?_
  · obtain ⟨fa2, fd2, ps2, g1, g2, g3, g4⟩ := (defW_all (P := l.prog) (w := w) (base := base) ⟨hH, fun _ => ⟨hb, hns⟩, fun z f fn e => by
      obtain ⟨c, P, hp⟩ := U.all z f fn e
      refine ⟨c, P, (U.tab _ hp).1, TB (c, P) (List.mem_map.mpr ⟨_, hp, rfl⟩), List.mem_map.mpr ⟨_, hp, rfl⟩, fun r hr er => ?_⟩
      obtain ⟨r', hr', rfl⟩ := List.mem_map.mp hr
      rw [← U.uniq _ hp _ hr' er.symm]⟩ T.fns T.blt T.con T.exc hsy k).fns d.name fn hf
    rw [hmg] at g1; cases g1
    exact ⟨fd2, ps2, g3, g4⟩
  · obtain ⟨r, hr, rfl⟩ := List.mem_map.mp hp
    exact LamX.TabS.nil (hO (r.1, r.2.1) (List.mem_map.mpr ⟨r, hr, rfl⟩))
end PyEv

set_option maxRecDepth 100000
set_option maxHeartbeats 4000000
/-! PyTop: what the module's top gives. -/
namespace PyEv
open PySem L2
variable [TabL]

section
variable {K : PySem.W.Frag} {w : World} {h : Heap} {mg : Str → Option Value}
def AllDefs (K : PySem.W.Frag) (mg : Str → Option Value) : List (Str × Fn) → Prop
  | [] => True
  | p :: r => DefOk K mg p.1 p.2 ∧ AllDefs K mg r
theorem AllDefs.of : ∀ {l : List (Str × Fn)}, AllDefs K mg l → ∀ f fn, l.lookup f = some fn → DefOk K mg f fn
  | [], _, f, fn, e => by cases e
  | (x, g) :: r, h, f, fn, e => by
    rw [List.lookup_cons] at e
    split at e
    · rename_i hx
      have hx := beq_iff_eq.mp hx
      subst hx
      cases e
      exact h.1
    · exact AllDefs.of h.2 f fn e
def AllCons (K : PySem.W.Frag) (w : World) (mg : Str → Option Value) : List (Str × D) → Prop
  | [] => True
  | p :: r => ConstM K w mg p.1 p.2 ∧ AllCons K w mg r
theorem AllCons.of : ∀ {l : List (Str × D)}, AllCons K w mg l → ∀ f fn, l.lookup f = some fn → ConstM K w mg f fn
  | [], _, f, fn, e => by cases e
  | (x, g) :: r, h, f, fn, e => by
    rw [List.lookup_cons] at e
    split at e
    · rename_i hx
      have hx := beq_iff_eq.mp hx
      subst hx
      cases e
      exact h.1
    · exact AllCons.of h.2 f fn e
def AllBlt (K : PySem.W.Frag) : List String → Prop
  | [] => True
  | b :: r => PySem.W.nsIn K mainGlobals (Str.ofString b) = some none ∧ AllBlt K r
theorem AllBlt.of (X : K.In h) (G : h.Ns mainGlobals mg) : ∀ {l : List String}, AllBlt K l → ∀ b ∈ l, mg (Str.ofString b) = none
  | [], _, b, hb => by cases hb
  | x :: r, z, b, hb => by
    rcases List.mem_cons.mp hb with rfl | hb
    · exact PySem.W.mg_none_of X G z.1
    · exact AllBlt.of X G z.2 b hb
theorem con_str (X : K.In h) (G : h.Ns mainGlobals mg) {x s : Str} {t : Tok} (a : PySem.W.nsIn K mainGlobals x = some (some (.str s t))) : ConstM K w mg x (.str s) :=
  ⟨_, .str s, PySem.W.mg_of X G a, ⟨t, rfl⟩, fun _ => .str s⟩
theorem con_int (X : K.In h) (G : h.Ns mainGlobals mg) {x : Str} {i : Int} {t : Tok} (a : PySem.W.nsIn K mainGlobals x = some (some (.int i t))) : ConstM K w mg x (.int i) :=
  ⟨_, .int i, PySem.W.mg_of X G a, ⟨t, rfl⟩, fun _ => .int i⟩
theorem KL.sS {P : Params} {e : DictEntry} {r : List DictEntry} {k x : Str} {ks : List Str} {vs : List V} {t u : Tok} (a : e.key = .str k t) (b : e.hash = PyData.keyHash P k) (c : e.val = .str x u) (d : KL P r ks vs) : KL P (e :: r) (k :: ks) (.str x :: vs) := .cons a b (by rw [c]; exact ⟨u, rfl⟩) d
theorem KL.sI {P : Params} {e : DictEntry} {r : List DictEntry} {k : Str} {i : Int} {ks : List Str} {vs : List V} {t u : Tok} (a : e.key = .str k t) (b : e.hash = PyData.keyHash P k) (c : e.val = .int i u) (d : KL P r ks vs) : KL P (e :: r) (k :: ks) (.int i :: vs) := .cons a b (by rw [c]; exact ⟨u, rfl⟩) d
theorem KL.lit {P : Params} : ∀ {l : List DictEntry} {ks : List Str} {vs : List V}, KL P l ks vs → PySem.W.KeysLit P l
  | _, _, _, .nil => trivial
  | _, _, _, .cons a b _ r => ⟨⟨_, _, a, b⟩, r.lit⟩
theorem KL.len {P : Params} : ∀ {l : List DictEntry} {ks : List Str} {vs : List V}, KL P l ks vs → ks.length = vs.length
  | _, _, _, .nil => rfl
  | _, _, _, .cons a b _ r => by simp [r.len]
theorem isStr_str {x k : Str} {t : Tok} : (Value.str k t).isStr x = (x == k) := by
  show (k == x) = (x == k)
  exact BEq.comm
theorem KL.find {P : Params} {x : Str} : ∀ {l : List DictEntry} {ks : List Str} {vs : List V}, KL P l ks vs → (match (ks.zip vs).lookup x with | some v => ∃ e, l.find? (·.key.isStr x) = some e ∧ RelV v e.val | none => l.find? (·.key.isStr x) = none)
  | _, _, _, .nil => rfl
  | _, _, _, .cons (e := e) (r := r) (k := k) (ks := ks) (v := v) (vs := vs) a b c d => by
    have ih := KL.find (x := x) d
    rw [List.zip_cons_cons, List.lookup_cons, List.find?_cons, a, isStr_str]
    cases x == k with
    | true => exact ⟨e, rfl, c⟩
    | false => exact ih
theorem KL.noref {P : Params} : ∀ {l : List DictEntry} {ks : List Str} {vs : List V}, KL P l ks vs → l.any (·.refKey) = false
  | _, _, _, .nil => rfl
  | _, _, _, .cons (e := e) a b c d => by
    rw [List.any_cons, d.noref, Bool.or_false]
    unfold DictEntry.refKey
    rw [a]
theorem con_dct (X : K.In h) (G : h.Ns mainGlobals mg) {x : Str} {d : Addr} {es : Array DictEntry} {n : Nat} {ks : List Str} {ds : List D} {vs : List V} (a : PySem.W.nsIn K mainGlobals x = some (some (.ref d))) (l : K.lookup d = some ⟨.type "dict", none, .dict es n, #[]⟩)
    (low : (d == sysModules) = false) (kl : KL w.params es.toList ks vs) (dn : ∀ Hf, DenL K w Hf ds vs) : ConstM K w mg x (.dct ks ds) := by
  refine ⟨_, .ref d, PySem.W.mg_of X G a, rfl, fun Hf => .kdct ⟨⟨es, n, ⟨l, kl.lit, low⟩, kl⟩, fun y v e => ?_, fun y e => ?_, kl.len⟩ (dn Hf)⟩
  · have f := kl.find (x := y)
    rw [e] at f
    obtain ⟨e0, f, r⟩ := f
    refine ⟨e0.val, ?_, r⟩
    unfold PySem.W.nsIn
    rw [l]
    show (match es.toList.find? (·.key.isStr y) with | some e => some (some e.val) | none => _) = _
    rw [f]
  · have f := kl.find (x := y)
    rw [e] at f
    have f : es.toList.find? (·.key.isStr y) = none := f
    unfold PySem.W.nsIn
    rw [l]
    show (match es.toList.find? (·.key.isStr y) with | some e => some (some e.val) | none => if es.toList.any (·.refKey) then none else some none) = _
    rw [f, kl.noref]
    rfl
end
end PyEv
namespace PyEv
open PySem L2
variable [TabL]
/-! ### the errors' classes -/
/-- the __init__ at f, written in the class at TU -/
structure TuS (prog : Program) (K : PySem.W.Frag) (TU f : Addr) : Prop where
  look : ∃ (cc cda : Addr) (params : Arguments) (ar : Arg) (q : Str) (dV kV doc pm ct oc : Value) (an od : Option Addr) (osl : Array (Option Value)) (ccl cl : Value) (cdd cld : Option Addr) (ccs csl : Array (Option Value)) (vs : Array Value) (file : Str) (tf : Tok) (cdD : ClassData),
    K.lookup f = some ⟨oc, od, .func (PySem.W.ksFn "__init__" q params tuBody tuScope dV kV doc pm an (.ref cda) ct cc), osl⟩ ∧ PySem.W.codeIn K (.ref cda) q = true ∧
    (∀ (s : Shared) (u v : Value), BindsTo s (PySem.W.ksFn "__init__" q params tuBody tuScope dV kV doc pm an (.ref cda) ct cc) ⟨[u, v], []⟩ [("self", u), ("value", v)]) ∧
    (params.posonlyargs ++ params.args).head? = some ar ∧ ar.arg = ("self" : Str) ∧
    K.lookup cda = some ⟨ccl, cdd, .fields vs, ccs⟩ ∧ vs[2]? = some (.str file tf) ∧ ((prog.main.file : Str) == file) = true ∧
    K.lookup cc = some ⟨cl, cld, .cell (some (.ref TU)), csl⟩ ∧ PySem.W.clsIn K TU = some cdD
  any : PySem.W.nsIn K PySem.cStatics "thirdparty.any" = some none
  top : (prog.main.scope.names.lookup ("super" : Str)).isSome = false
  tI : PySem.W.typeIn K (.ref f) = some (.type "function")
  hn : PySem.W.specialIn K (.builtin "object.__class__") "__get__" = some (some (.builtin "getset_descriptor.__get__"))
  ht : PySem.W.takesIn K (.builtin "object.__class__") = some true
section
variable {prog : Program} {K : PySem.W.Frag} {h : Heap} {mg : Str → Option Value} {TU f C : Addr} {c : Str}
theorem excF_mk (S : TuS prog K TU f) (X : K.In h) (G : h.Ns mainGlobals mg) {nm q : Str} {N : Addr} {bs bm : List Value} {sn : List Str} {sub : List Value} {ab : Bool} {col : Option Bool} {dd : Option Addr} {k0 k1 k2 k3 k5 : Option Value}
    (ns : PySem.W.nsIn K mainGlobals c = some (some (.ref C))) (xL : K.lookup C = some (excClassObj nm q C N bs bm true sn sub ab col dd k0 k1 k2 k3 k5 "ValueError.__new__")) (hb : Value.ref C :: bm = excMro c C TU) (hC : c = "TypeUnknown" → C = TU) (hC2 : c ≠ "TypeUnknown" → C ≠ TU)
    (sa : PySem.W.findIn K (.ref C) "__setattr__" = some (some (.builtin "object.__setattr__"))) (kC : PySem.W.keepIn K (.ref C) = true) (iC : PySem.W.findIn K (.ref C) "__init__" = some (some (.ref f))) (noV : PySem.W.findIn K (.ref C) "value" = some none)
    (ga : PySem.W.findIn K (.ref C) "__getattribute__" = some (some (.builtin "BaseException.__getattribute__"))) (gg : PySem.W.findIn K (.ref C) "__getattr__" = some none)
    (ha : PySem.W.findIn K (.ref C) "__class__" = some (some (.builtin "object.__class__"))) : ExcF prog K mg c C TU := by
  have hcl : PySem.W.clsIn K C = some { name := nm, bases := bs, mro := .ref C :: bm, ns := N, qualname := q, hasDict := true, slotNames := sn, subclasses := sub, abstract := ab, collection := col, hasDel := false } := by unfold PySem.W.clsIn; rw [xL] <;> rfl
  have mro : ∀ b, PySem.W.mroIn K C b = some ((excMro c C TU).contains b) := fun b => by
    unfold PySem.W.mroIn
    rw [hcl, Option.bind_some]
    show (if (Value.ref C :: bm).isEmpty = true then none else some ((Value.ref C :: bm).contains b)) = _
    rw [if_neg (by simp), hb]
  have cB : (excMro c C TU).contains (.type "BaseException") = true := by unfold excMro; split <;> rfl
  have cO : (excMro c C TU).contains (.type "object") = true := by unfold excMro; split <;> rfl
  have cV : (excMro c C TU).contains (.type "ValueError") = true := by unfold excMro; split <;> rfl
  have cT : (excMro c C TU).contains (.ref TU) = true := by
    unfold excMro
    split
    · rename_i z; rw [hC z]; simp
    · simp
  have refs : PySem.HandSPX.refsVE bm = true := by
    unfold excMro at hb
    split at hb
    · cases hb; rfl
    · cases hb; rfl
  have tyC : PySem.W.typeIn K (.ref C) = some (.type "type") := by
    show (K.lookup C).map (·.cls) = _
    rw [xL]; rfl
  have hd : PySem.W.hasDictIn K C = true := by
    unfold PySem.W.hasDictIn
    rw [hcl]; rfl
  have sB : PySem.W.subIn K (.ref C) (.type "BaseException") = some true := (mro _).trans (by rw [cB])
  have ks : PySem.W.ks_superIn K C TU "__init__" = some (some (.builtin "ValueError.__init__")) := by
    have al : PySem.W.alongIn K "__init__" veMro = some (some (.builtin "ValueError.__init__")) := by kernel_rfl
    unfold PySem.W.ks_superIn
    rw [hcl, Option.bind_some]
    show PySem.W.alongIn K "__init__" (((Value.ref C :: bm).dropWhile (· != .ref TU)).drop 1) = _
    rw [hb]
    have e0 : (Value.ref TU != Value.ref TU) = false := by simp
    unfold excMro
    split
    · rename_i z
      rw [hC z, List.dropWhile_cons, e0]
      exact al
    · rename_i z
      have e1 : (Value.ref C != Value.ref TU) = true := by simp [hC2 z]
      rw [List.dropWhile_cons, e1, if_pos rfl, List.dropWhile_cons, e0]
      exact al
  obtain ⟨cc, cda, params, ar, q', dV, kV, doc, pm, ct, oc, an, od, osl, ccl, cl, cdd, cld, ccs, csl, vs, file, tf, cdD, l1, l2, l3, l4, l5, l6, l7, l8, l9, l10⟩ := S.look
  refine ⟨ns, PySem.W.mg_of X G ns, ⟨f, ⟨⟨⟨nm, q, N, bs, bm, sn, sub, ab, col, dd, k0, k1, k2, k3, k5, xL, refs⟩, sa, sB, tyC, kC⟩,
    ⟨TU, cc, cda, params, ar, q', dV, kV, doc, pm, ct, oc, an, od, osl, ccl, cl, cdd, cld, ccs, csl, vs, file, tf, cdD, l1, l2, l3, l4, l5, l6, l7, l8, l9, l10, (mro _).trans (by rw [cT]), ks⟩, (mro _).trans (by rw [cV]), S.any, S.top, noV⟩, iC, S.tI⟩,
    ⟨ga, gg, sB, hd⟩, ⟨ga, gg, sB, hd, ha, S.hn, S.ht, (mro _).trans (by rw [cO])⟩, ⟨_, hcl, hb⟩⟩
theorem tuS_mk {cc cda : Addr} {params : Arguments} {ar : Arg} {q : Str} {dV kV doc pm ct oc : Value} {an od : Option Addr} {osl : Array (Option Value)} {ccl cl : Value} {cdd cld : Option Addr} {ccs csl : Array (Option Value)} {vs : Array Value} {file : Str} {tf : Tok} {cdD : ClassData}
    (_X : K.In h) (_nT : PySem.W.nsIn K mainGlobals "TypeUnknown" = some (some (.ref TU))) (_iC : PySem.W.findIn K (.ref TU) "__init__" = some (some (.ref f)))
    (l1 : K.lookup f = some ⟨oc, od, .func (PySem.W.ksFn "__init__" q params tuBody tuScope dV kV doc pm an (.ref cda) ct cc), osl⟩) (l2 : PySem.W.codeIn K (.ref cda) q = true) (l6 : K.lookup cda = some ⟨ccl, cdd, .fields vs, ccs⟩) (l9 : K.lookup cc = some ⟨cl, cld, .cell (some (.ref TU)), csl⟩) (l10 : PySem.W.clsIn K TU = some cdD)
    (any : PySem.W.nsIn K PySem.cStatics "thirdparty.any" = some none) (tI : PySem.W.typeIn K (.ref f) = some (.type "function")) (hn : PySem.W.specialIn K (.builtin "object.__class__") "__get__" = some (some (.builtin "getset_descriptor.__get__"))) (ht : PySem.W.takesIn K (.builtin "object.__class__") = some true)
    (l3 : ∀ (s : Shared) (u v : Value), BindsTo s (PySem.W.ksFn "__init__" q params tuBody tuScope dV kV doc pm an (.ref cda) ct cc) ⟨[u, v], []⟩ [("self", u), ("value", v)]) (l4 : (params.posonlyargs ++ params.args).head? = some ar) (l5 : ar.arg = ("self" : Str)) (l7 : vs[2]? = some (.str file tf)) (l8 : ((prog.main.file : Str) == file) = true)
    (top : (prog.main.scope.names.lookup ("super" : Str)).isSome = false) : TuS prog K TU f :=
  ⟨⟨cc, cda, params, ar, q, dV, kV, doc, pm, ct, oc, an, od, osl, ccl, cl, cdd, cld, ccs, csl, vs, file, tf, cdD, l1, l2, l3, l4, l5, l6, l7, l8, l9, l10⟩, any, top, tI, hn, ht⟩
def AllExc (prog : Program) (K : PySem.W.Frag) (mg : Str → Option Value) (TU : Addr) : List (Str × Addr) → Prop
  | [] => True
  | p :: r => ExcF prog K mg p.1 p.2 TU ∧ AllExc prog K mg TU r
theorem AllExc.more {l : List (Str × Addr)} (h : ExcF prog K mg c C TU) (r : AllExc prog K mg TU l) : AllExc prog K mg TU ((c, C) :: l) := ⟨h, r⟩
theorem AllExc.of : ∀ {l : List (Str × Addr)}, AllExc prog K mg TU l → ∀ c, (l.map (·.1)).contains c = true → ∃ C, l.lookup c = some C ∧ (c, C) ∈ l ∧ ExcF prog K mg c C TU
  | [], _, c, h => by cases h
  | (x, a) :: r, h, c, hc => by
    by_cases e : c = x
    · subst e
      exact ⟨a, by simp [List.lookup], List.mem_cons_self, h.1⟩
    · have hc' : (r.map (·.1)).contains c = true := by
        rw [List.map_cons, List.contains_cons, beq_eq_false_iff_ne.mpr e, Bool.false_or] at hc
        exact hc
      obtain ⟨C, h1, h2, h3⟩ := AllExc.of h.2 c hc'
      exact ⟨C, by rw [List.lookup_cons, beq_eq_false_iff_ne.mpr e]; exact h1, List.mem_cons_of_mem _ h2, h3⟩
theorem nodup_snd : ∀ {l : List (Str × Addr)} {x y : Str} {a : Addr}, (l.map (·.2)).Nodup → (x, a) ∈ l → (y, a) ∈ l → x = y
  | [], _, _, _, _, h, _ => by cases h
  | p :: r, x, y, a, nd, h1, h2 => by
    rw [List.map_cons, List.nodup_cons] at nd
    rcases List.mem_cons.mp h1 with e1 | e1 <;> rcases List.mem_cons.mp h2 with e2 | e2
    · rw [← e1] at e2; cases e2; rfl
    · exact absurd (List.mem_map.mpr ⟨_, e2, by rw [← e1]⟩) nd.1
    · exact absurd (List.mem_map.mpr ⟨_, e1, by rw [← e2]⟩) nd.1
    · exact nodup_snd nd.2 e1 e2
theorem excs_of (tab : List (Str × Addr)) {es : List Str} (A : AllExc prog K mg TU tab) (he : es = tab.map (·.1)) (nd : (tab.map (·.2)).Nodup) (hT : tab.lookup ("TypeUnknown" : Str) = some TU) (hc : es.contains "TypeUnknown" = true) (sup : mg "super" = none) (ve : mg "ValueError" = none) : ExcsOk prog K mg es := by
  subst he
  refine ⟨fun _ => ⟨TU, fun c => (tab.lookup c).getD 0, (show (tab.lookup ("TypeUnknown" : Str)).getD 0 = TU by rw [hT]; rfl), hc, fun c h => ?_, fun c k h1 h2 e => ?_⟩, sup, ve⟩
  · obtain ⟨C, a, _, b⟩ := A.of c h
    show ExcF prog K mg c ((tab.lookup c).getD 0) TU
    rw [a]; exact b
  · obtain ⟨C, a, m, b⟩ := A.of c h1
    obtain ⟨D, a', m', b'⟩ := A.of k h2
    simp only [a, a', Option.getD_some] at e
    subst e
    exact nodup_snd nd m m'
theorem excs_nil (sup : mg "super" = none) (ve : mg "ValueError" = none) : ExcsOk prog K mg [] := ⟨fun h => absurd rfl h, sup, ve⟩
end
end PyEv

set_option maxRecDepth 100000
set_option maxHeartbeats 4000000
/-! PyRun: running the evaluator by simp. -/
namespace PyEv
open PySem (Str PyData)
def Ret (P : Prog) (n : Nat) (f : Str) (ws : List W) (w : W) : Prop := ∃ outs, callF P n f ws = .ok w outs
theorem call_eq {P : Prog} {n : Nat} {f : Str} {fn : Fn} {ws : List W} (h : P.fns.lookup f = some fn) (hl : ws.length = fn.n) : callF P (n + 1) f ws = finC (evSs P (callF P n) fn.keep fn.body (ws.map some ++ List.replicate (fn.m - fn.n) none)) := by
  show (match P.fns.lookup f with | none => CRes.bad | some fn => if ws.length = fn.n then finC (evSs P (callF P n) fn.keep fn.body (ws.map some ++ List.replicate (fn.m - fn.n) none)) else .bad) = _
  rw [h]
  exact if_pos hl
/-- the value that a body ends with -/
def Fl.val : Fl → Option W
  | .nx _ => some (.d .non)
  | .rt w _ => some w
  | _ => none
def Res.val {α : Type} : Res α → Option α
  | .ok a _ => some a
  | _ => none
theorem ret_of {P : Prog} {n : Nat} {f : Str} {fn : Fn} {ws : List W} {w : W} (h : P.fns.lookup f = some fn) (hl : ws.length = fn.n) (e : (evSs P (callF P n) fn.keep fn.body (ws.map some ++ List.replicate (fn.m - fn.n) none)).val = some w) : Ret P (n + 1) f ws w := by
  unfold Ret
  rw [call_eq h hl]
  revert e
  cases evSs P (callF P n) fn.keep fn.body (ws.map some ++ List.replicate (fn.m - fn.n) none) <;> intro e <;> first | cases e <;> exact ⟨_, rfl⟩ | cases e
/-- a comprehension without a test, by an invariant of the slots -/
theorem lcL_map {keep : List Nat} {tg : Tg} {own : List (Str × Nat)} {ct : Env → Res Bool} {ce : Env → Res D} (f : D → D) (Q : Env → Prop) : ∀ (xs acc : List D) (env : Env),
    (∀ x ∈ xs, ∀ env, Q env → ∃ env1 env2 env3, assignTg keep tg x (wipeE env own) = some env1 ∧ ct env1 = .ok true env2 ∧ ce env2 = .ok (f x) env3 ∧ Q (wipeE env3 own)) → Q env → acc.length + xs.length ≤ line →
    ∃ env', lcL keep tg own ct ce xs acc env = .ok (acc ++ xs.map f) env' ∧ Q env'
  | [], acc, env, _, q, _ => ⟨env, by simp [lcL], q⟩
  | x :: xs, acc, env, h, q, hl => by
    obtain ⟨e1, e2, e3, h1, h2, h3, q'⟩ := h x List.mem_cons_self env q
    simp only [List.length_cons] at hl
    obtain ⟨env', ih, qe⟩ := lcL_map f Q xs (acc ++ [f x]) (wipeE e3 own) (fun y hy => h y (List.mem_cons_of_mem _ hy)) q' (by simp only [List.length_append, List.length_cons, List.length_nil]; omega)
    refine ⟨env', ?_, qe⟩
    have hz : acc.length < line := by omega
    simp only [lcL, h1, h2, h3, Res.noX, Res.bind, if_true, hz, ih, List.map_cons, List.append_assoc, List.cons_append, List.nil_append]
theorem forL_run {keep : List Nat} {tg : Tg} {body : Env → Fl} (Q : List D → Env → Prop) (step : ∀ x xs env, Q (x :: xs) env → ∃ env1 env2, assignTg keep tg x env = some env1 ∧ body env1 = .nx env2 ∧ Q xs env2) :
    ∀ xs env, Q xs env → ∃ env', forL keep tg body xs env = .nx env' ∧ Q [] env'
  | [], env, q => ⟨env, rfl, q⟩
  | x :: xs, env, q => by
    obtain ⟨e1, e2, h1, h2, q'⟩ := step x xs env q
    obtain ⟨env', ih, qe⟩ := forL_run Q step xs e2 q'
    exact ⟨env', by simp only [forL, h1, h2, ih], qe⟩
theorem whlL_run {c : Env → Res Bool} {body : Env → Fl} (Q : Nat → Env → Prop) (R : Env → Prop) (step : ∀ m env, Q (m + 1) env → ∃ env1 env2, c env = .ok true env1 ∧ body env1 = .nx env2 ∧ Q m env2) (done : ∀ env, Q 0 env → ∃ env', c env = .ok false env' ∧ R env') :
    ∀ m fuel env, m < fuel → Q m env → ∃ env', whlL c body fuel env = .nx env' ∧ R env'
  | _, 0, _, h, _ => by omega
  | 0, fuel + 1, env, _, q => by
    obtain ⟨e1, h1, r⟩ := done env q
    exact ⟨e1, by simp only [whlL, h1, Res.fl, Bool.false_eq_true, if_false], r⟩
  | m + 1, fuel + 1, env, hm, q => by
    obtain ⟨e1, e2, h1, h2, q'⟩ := step m env q
    obtain ⟨env', ih, r⟩ := whlL_run Q R step done m fuel e2 (by omega) q'
    exact ⟨env', by simp only [whlL, h1, h2, Res.fl, if_true, ih], r⟩
/-- ints far from the lines -/
def small (i : Int) : Prop := i.natAbs.log2 < 400000
theorem small_le {i : Int} {B : Nat} (h : i.natAbs ≤ B) (hB : B.log2 < 399999) : small i := by
  unfold small
  by_cases hz : i.natAbs = 0
  · rw [hz]; decide
  · have h2 : i.natAbs < 2 ^ (B.log2 + 1) := Nat.lt_of_le_of_lt h Nat.lt_log2_self
    have := (Nat.log2_lt hz).mpr h2
    omega
theorem small_of {i : Int} (h1 : -(2 ^ 250) ≤ i) (h2 : i ≤ 2 ^ 250) : small i := small_le (B := 2 ^ 250) (by omega) (by decide +kernel)
theorem binAdd {a b : Int} : binF .add (.int a) (.int b) = some (.d (.int (a + b))) := rfl
theorem binSub {a b : Int} : binF .sub (.int a) (.int b) = some (.d (.int (a - b))) := rfl
theorem binMul {a b : Int} (h1 : small a) (h2 : small b) : binF .mul (.int a) (.int b) = some (.d (.int (a * b))) := by
  unfold small at h1 h2
  show (if _ then _ else _) = _
  rw [if_pos (by omega)]
theorem binMod {a b : Int} (h : 0 < b) : binF .mod (.int a) (.int b) = some (.d (.int (a % b))) := if_pos h
theorem binFdv {a b : Int} (h : 0 < b) (h2 : b ≤ 2 ^ 250) : binF .fdv (.int a) (.int b) = some (.d (.int (a / b))) := by
  have hz : b.natAbs ≠ 0 := by omega
  have h3 : b.natAbs < 2 ^ 251 := by omega
  have := (Nat.log2_lt hz).mpr h3
  exact if_pos ⟨h, by omega⟩
theorem binPow3 {a : Int} (h : small a) : binF .pow (.int a) (.int 3) = some (.d (.int (a ^ 3))) := by
  unfold small at h
  refine if_pos ⟨by omega, ?_⟩
  unfold PySem.Builtin.Int.intBits
  split <;> omega
theorem eqF_str {a b : Str} : eqF (.str a) (.str b) = some (decide (a = b)) := rfl
theorem eqF_int {a b : Int} : eqF (.int a) (.int b) = some (decide (a = b)) := rfl
theorem at0 {α : Type} {a : α} {l : List α} : L2.atI (a :: l) 0 = some a := by simp [L2.atI, L2.ixN]
theorem at1 {α : Type} {a b : α} {l : List α} : L2.atI (a :: b :: l) 1 = some b := (show L2.atI (a :: b :: l) ((1 : Nat) : Int) = some b from L2.atI_nat rfl)
theorem at2 {α : Type} {a b c : α} {l : List α} : L2.atI (a :: b :: c :: l) 2 = some c := (show L2.atI (a :: b :: c :: l) ((2 : Nat) : Int) = some c from L2.atI_nat rfl)
theorem slot0 {o : Option W} {e : Env} : slot (o :: e) 0 = o := rfl
theorem slot1 {a o : Option W} {e : Env} : slot (a :: o :: e) 1 = o := rfl
theorem slot2 {a b o : Option W} {e : Env} : slot (a :: b :: o :: e) 2 = o := rfl
theorem slot3 {a b c o : Option W} {e : Env} : slot (a :: b :: c :: o :: e) 3 = o := rfl
theorem slot4 {a b c d o : Option W} {e : Env} : slot (a :: b :: c :: d :: o :: e) 4 = o := rfl
theorem slot5 {a b c d f o : Option W} {e : Env} : slot (a :: b :: c :: d :: f :: o :: e) 5 = o := rfl
theorem slot6 {a b c d f g o : Option W} {e : Env} : slot (a :: b :: c :: d :: f :: g :: o :: e) 6 = o := rfl
theorem slot7 {a b c d f g h o : Option W} {e : Env} : slot (a :: b :: c :: d :: f :: g :: h :: o :: e) 7 = o := rfl
theorem evIt_range1 {P : Prog} {cf : PySem.Str → List W → CRes} {keep : List Nat} {e : E} {env env' : Env} {a : Ar} {i : Int} {xs : List D} (h : evE P cf keep e env = .ok a env') (hu : use env' a = some (.int i)) (hr : rangeF 0 i = some xs) : evIt P cf keep (.range1 e) env = .ok xs env' := by
  simp only [evIt, h, Res.bind, hu, hr, Res.of]
theorem seq_nx {P : Prog} {cf : PySem.Str → List W → CRes} {keep : List Nat} {s : S} {ss : Ss} {env e : Env} (h : evS P cf keep s env = .nx e) : evSs P cf keep (.cons s ss) env = evSs P cf keep ss e := by simp only [evSs, h, Fl.then]
theorem seq_rt {P : Prog} {cf : PySem.Str → List W → CRes} {keep : List Nat} {s : S} {ss : Ss} {env e : Env} {w : W} (h : evS P cf keep s env = .rt w e) : evSs P cf keep (.cons s ss) env = .rt w e := by simp only [evSs, h, Fl.then]
end PyEv

set_option maxRecDepth 100000
set_option maxHeartbeats 4000000
/-! PyRepr: where repr is told. -/
namespace PyEv
open PySem
/-! texts, and lists and tuples of such -/
mutual
def okP : PyData → Bool
  | .none => true
  | .bool _ => true
  | .int _ => false
  | .str x => x.cps.toList.all (fun c => decide (c < 0x110000))
  | .list xs => okPs xs
  | .tuple xs => okPs xs
  | .dict _ => false
def okPs : List PyData → Bool
  | [] => true
  | x :: xs => okP x && okPs xs
end
mutual
def rb : PyData → Nat
  | .str x => 10 * x.length + 2
  | .list xs => 3 + rbs xs
  | .tuple xs => 3 + rbs xs
  | _ => 5
def rbs : List PyData → Nat
  | [] => 0
  | x :: xs => rb x + 2 + rbs xs
end
theorem piled_join (ts : List Str) : (Str.join ", " ts).length ≤ piled ts := by
  cases ts with
  | nil => exact Nat.zero_le _
  | cons t r => have := join_length_add (t :: r) (by simp); omega
theorem textFrom_le : ∀ (ts : List Str) (k : Nat) (acc : Str), (textFrom k acc ts).length ≤ acc.length + piled ts
  | [], k, acc => by show acc.length ≤ _; omega
  | t :: r, k, acc => by
    have h := textFrom_le r (k + 1) (acc ++ (if k > 0 then ", " else "" : String) ++ t)
    have e : (acc ++ (if k > 0 then ", " else "" : String) ++ t).length ≤ acc.length + 2 + t.length := by
      rw [strLen_append, strLen_append]
      split
      · have e2 : ((", " : String) : Str).length = 2 := rfl
        omega
      · have e2 : (("" : String) : Str).length = 0 := rfl
        omega
    show (textFrom (k + 1) _ r).length ≤ _
    rw [piled_cons]; omega
mutual
theorem shown_len : ∀ (d : PyData), okP d = true → d.shown.length ≤ rb d
  | .none, _ => by simp only [PyData.shown, rb]; decide
  | .bool b, _ => by cases b <;> (simp only [PyData.shown, rb]; decide)
  | .int _, h => by simp [okP] at h
  | .str x, h => by
    simp only [okP, List.all_eq_true, decide_eq_true_eq] at h
    simp only [PyData.shown, rb]
    exact StrLaws.reprText_len x fun c hc => Nat.lt_trans (h c hc) (by decide)
  | .list xs, h => by
    simp only [okP] at h
    have := showns_len xs h
    simp only [PyData.shown, rb, listText]
    rw [strLen_append]
    have h2 := textFrom_le (PyData.shownAll xs) 0 "["
    have e1 : (("[" : String) : Str).length = 1 := rfl
    have e2 : (("]" : String) : Str).length = 1 := rfl
    omega
  | .tuple xs, h => by
    simp only [okP] at h
    have := showns_len xs h
    simp only [PyData.shown, rb, tupleText]
    rw [strLen_append, strLen_append]
    have h2 := piled_join (PyData.shownAll xs)
    have e1 : (("(" : String) : Str).length = 1 := rfl
    have e2 : (((if (PyData.shownAll xs).length == 1 then ",)" else ")" : String) : Str)).length ≤ 2 := by split <;> decide
    omega
  | .dict _, h => by simp [okP] at h
theorem showns_len : ∀ (xs : List PyData), okPs xs = true → piled (PyData.shownAll xs) ≤ rbs xs
  | [], _ => by simp only [PyData.shownAll, rbs]; exact Nat.le_refl _
  | x :: xs, h => by
    simp only [okPs, Bool.and_eq_true] at h
    have h1 := shown_len x h.1
    have h2 := showns_len xs h.2
    simp only [PyData.shownAll, rbs]
    rw [piled_cons]; omega
end
mutual
theorem okP_show : ∀ (d : PyData), okP d = true → d.showable = true ∧ d.hasDict = false ∧ d.canLay0 = true
  | .none, _ => by simp [PyData.showable, PyData.hasDict, PyData.canLay0]
  | .bool b, _ => by simp [PyData.showable, PyData.hasDict, PyData.canLay0]
  | .int _, h => by simp [okP] at h
  | .str x, h => by
    simp only [okP] at h
    refine ⟨by simp [PyData.showable], by simp [PyData.hasDict], ?_⟩
    simp only [PyData.canLay0, PyData.strOk]
    rw [← Array.all_toList]
    exact h
  | .list xs, h => by simpa only [PyData.showable, PyData.hasDict, PyData.canLay0] using okPs_show xs (by simpa only [okP] using h)
  | .tuple xs, h => by simpa only [PyData.showable, PyData.hasDict, PyData.canLay0] using okPs_show xs (by simpa only [okP] using h)
  | .dict _, h => by simp [okP] at h
theorem okPs_show : ∀ (xs : List PyData), okPs xs = true → PyData.showableAll xs = true ∧ PyData.hasDictAll xs = false ∧ PyData.canLayAll0 xs = true
  | [], _ => by simp [PyData.showableAll, PyData.hasDictAll, PyData.canLayAll0]
  | x :: xs, h => by
    simp only [okPs, Bool.and_eq_true] at h
    obtain ⟨a1, a2, a3⟩ := okP_show x h.1
    obtain ⟨b1, b2, b3⟩ := okPs_show xs h.2
    simp [PyData.showableAll, PyData.hasDictAll, PyData.canLayAll0, a1, a2, a3, b1, b2, b3]
end
mutual
theorem eqv_refl : ∀ (d : PyData), okP d = true → PyData.eqv d d = true
  | .none, _ => by simp [PyData.eqv]
  | .bool b, _ => by simp [PyData.eqv]
  | .int _, h => by simp [okP] at h
  | .str x, _ => by simp [PyData.eqv]
  | .list xs, h => by simpa only [PyData.eqv] using eqvs_refl xs (by simpa only [okP] using h)
  | .tuple xs, h => by simpa only [PyData.eqv] using eqvs_refl xs (by simpa only [okP] using h)
  | .dict _, h => by simp [okP] at h
theorem eqvs_refl : ∀ (xs : List PyData), okPs xs = true → PyData.eqvAll xs xs = true
  | [], _ => by simp [PyData.eqvAll]
  | x :: xs, h => by
    simp only [okPs, Bool.and_eq_true] at h
    simp [PyData.eqvAll, eqv_refl x h.1, eqvs_refl xs h.2]
end
theorem okPs_all : ∀ (xs : List PyData), (∀ x ∈ xs, okP x = true) → okPs xs = true
  | [], _ => rfl
  | x :: xs, h => by simp only [okPs, h x List.mem_cons_self, okPs_all xs fun y hy => h y (List.mem_cons_of_mem _ hy), Bool.and_self]
theorem depthAll_le {m : Nat} : ∀ (xs : List PyData), (∀ x ∈ xs, x.depth ≤ m) → PyData.depthAll xs ≤ m
  | [], _ => Nat.zero_le _
  | x :: xs, h => by
    have a := h x List.mem_cons_self
    have b := depthAll_le xs fun y hy => h y (List.mem_cons_of_mem _ hy)
    simp only [PyData.depthAll]; omega
theorem rbs_le {m : Nat} : ∀ (xs : List PyData), (∀ x ∈ xs, rb x ≤ m) → rbs xs ≤ xs.length * (m + 2)
  | [], _ => Nat.zero_le _
  | x :: xs, h => by
    have a := h x List.mem_cons_self
    have b := rbs_le xs fun y hy => h y (List.mem_cons_of_mem _ hy)
    simp only [rbs, List.length_cons, Nat.succ_mul]; omega
theorem pyL_map {α : Type} {f : α → D} {g : α → PyData} : ∀ (l : List α), (∀ x ∈ l, (f x).py = some (g x)) → D.pyL (l.map f) = some (l.map g)
  | [], _ => rfl
  | x :: l, h => by
    simp only [List.map_cons, D.pyL, h x List.mem_cons_self, pyL_map l fun y hy => h y (List.mem_cons_of_mem _ hy)]
theorem reprF_some {d : D} {p : PyData} (e : d.py = some p) (ok : okP p = true) (hr : rb p ≤ line) (hd : p.depth ≤ 150) : reprF d = some (.str p.shown) := by
  obtain ⟨a, b, _⟩ := okP_show p ok
  have h := shown_len p ok
  unfold reprF
  rw [pyR_of e]
  show (if (p.showable && decide (p.shown.length ≤ line) && decide (p.depth ≤ 150)) = true then _ else _) = _
  rw [if_pos (by simp [a, b, hd]; omega)]
theorem shaped_of {p : PyData} (ok : okP p = true) (hd : p.depth ≤ 64) : SeqAt.shaped p = true := by
  unfold SeqAt.shaped
  simp [(okP_show p ok).2.2, hd]
theorem eqF_refl {d : D} {p : PyData} (e : d.py = some p) (ok : okP p = true) (hd : p.depth ≤ 64) : eqF d d = some true := by
  unfold eqF
  split
  · simp
  · simp
  · rw [e]
    show (if (SeqAt.shaped p && SeqAt.shaped p) = true then some (PyData.eqv p p) else none) = _
    rw [shaped_of ok hd, eqv_refl p ok]; rfl
end PyEv

set_option maxRecDepth 100000
set_option maxHeartbeats 4000000
/-! PyEvl: rules that run the evaluator step by step. -/
namespace PyEv
open PySem (Str PyData)
def Ss.app : Ss → Ss → Ss
  | .nil, b => b
  | .cons s a, b => .cons s (a.app b)
section
variable {P : Prog} {cf : Str → List W → CRes} {keep : List Nat} {env env1 env2 env3 env4 : Env} {a b c e : E} {es : Es} {x y z : Ar} {dx dy dz d : D} {ds : List D} {w u : W} {i j k : Nat} {t : Bool} {m n : Int}
/-! ### lists by place -/
theorem set0 {α : Type} {p q : α} {l : List α} : List.set (p :: l) 0 q = q :: l := rfl
theorem setS {α : Type} {p q : α} {l l' : List α} {i : Nat} (h : List.set l i q = l') : List.set (p :: l) (i + 1) q = p :: l' := by rw [← h]; rfl
theorem sl0 {o : Option W} {e : Env} : slot (o :: e) 0 = o := rfl
theorem slS {p o : Option W} {e : Env} {i : Nat} (h : slot e i = o) : slot (p :: e) (i + 1) = o := by rw [← h]; unfold slot; simp
/-! ### operands -/
theorem us_d : use env (.val (.d d)) = some d := rfl
theorem us_l : use env (.val (.lst ds)) = some (.lst ds) := rfl
theorem us_c {ks : List Str} : use env (.val (.dct ks ds)) = some (.dct ks ds) := rfl
theorem us_v (h : slot env i = some w) (h2 : w.frz = d) : use env (.vr i) = some d := by show (slot env i).map W.frz = _; rw [h, ← h2]; rfl
theorem fz_d : W.frz (.d d) = d := rfl
theorem fz_l : W.frz (.lst ds) = .lst ds := rfl
theorem fz_c {ks : List Str} : W.frz (.dct ks ds) = .dct ks ds := rfl
theorem it_d : item (.val (.d d)) env = .ok d env := rfl
theorem it_l : item (.val (.lst ds)) env = .ok (.lst ds) env := rfl
theorem it_c {ks : List Str} : item (.val (.dct ks ds)) env = .ok (.dct ks ds) env := rfl
def itemW (i : Nat) (env : Env) : W → Res D
  | .d x => .ok x env
  | .lst xs => .ok (.lst xs) (env.set i (some (.d (.lst xs))))
  | .dct ks vs => .ok (.dct ks vs) (env.set i (some (.d (.dct ks vs))))
theorem it_v {r : Res D} (h : slot env i = some w) (h2 : itemW i env w = r) : item (.vr i) env = r := by
  cases w <;> simp only [item, h, W.frz] <;> exact h2
theorem iw_d : itemW i env (.d d) = .ok d env := rfl
theorem iw_l (he : env.set i (some (.d (.lst ds))) = env1) : itemW i env (.lst ds) = .ok (.lst ds) env1 := by rw [← he]; rfl
theorem iw_c {ks : List Str} (he : env.set i (some (.d (.dct ks ds))) = env1) : itemW i env (.dct ks ds) = .ok (.dct ks ds) env1 := by rw [← he]; rfl
def takeW (i : Nat) (env : Env) : W → Res W
  | .d x => .ok (.d x) env
  | .lst xs => .ok (.lst xs) (env.set i none)
  | .dct ks vs => .ok (.dct ks vs) (env.set i none)
theorem tk_w : take (.val w) env = .ok w env := rfl
theorem tk_v {r : Res W} (h : slot env i = some w) (h2 : takeW i env w = r) : take (.vr i) env = r := by
  cases w <;> simp only [take, h] <;> exact h2
theorem tw_d : takeW i env (.d d) = .ok (.d d) env := rfl
theorem tw_l (he : env.set i none = env1) : takeW i env (.lst ds) = .ok (.lst ds) env1 := by rw [← he]; rfl
theorem tw_c {ks : List Str} (he : env.set i none = env1) : takeW i env (.dct ks ds) = .ok (.dct ks ds) env1 := by rw [← he]; rfl
theorem st_ok (hk : keep.contains i = false) (hl : i < env.length) (he : env.set i (some w) = env1) : store keep i w env = some env1 := by
  unfold store
  rw [if_neg (by rw [hk]; simp; omega), he]
theorem as1 (h : store keep i (.d d) env = some env1) : assignTg keep (.one i) d env = some env1 := h
theorem as2 (h : store keep i (.d dx) env = some env1) (h2 : store keep j (.d dy) env1 = some env2) : assignTg keep (.two i j) (.tup [dx, dy]) env = some env2 := by
  simp only [assignTg, h, h2, Option.bind]
theorem as3 (h : store keep i (.d dx) env = some env1) (h2 : store keep j (.d dy) env1 = some env2) (h3 : store keep k (.d dz) env2 = some env3) : assignTg keep (.three i j k) (.tup [dx, dy, dz]) env = some env3 := by
  simp only [assignTg, h, h2, h3, Option.bind]
/-! ### arguments bound -/
theorem ba_nil : bindA keep [] j env = some ([], env, []) := rfl
theorem ba_v {r : List Ar} {ws : List W} {l : List (Nat × Nat)} (h : bindA keep r (j + 1) env = some (ws, env1, l)) : bindA keep (.val w :: r) j env = some (w :: ws, env1, l) := by
  simp only [bindA, h, Option.map]
def bindV (keep : List Nat) (r : List Ar) (i j : Nat) (env : Env) : W → Option (List W × Env × List (Nat × Nat))
  | .d x => (bindA keep r (j + 1) env).map fun (ws, e, l) => (.d x :: ws, e, l)
  | w => if keep.contains j then (bindA keep r (j + 1) (env.set i none)).map fun (ws, e, l) => (w :: ws, e, (i, j) :: l) else none
theorem ba_vr {r : List Ar} {q : Option (List W × Env × List (Nat × Nat))} (hs : slot env i = some w) (h : bindV keep r i j env w = q) : bindA keep (.vr i :: r) j env = q := by
  cases w <;> simp only [bindA, hs] <;> exact h
theorem bv_d {r : List Ar} {ws : List W} {l : List (Nat × Nat)} (h : bindA keep r (j + 1) env = some (ws, env1, l)) : bindV keep r i j env (.d d) = some (.d d :: ws, env1, l) := by
  simp only [bindV, h, Option.map]
theorem bv_l {r : List Ar} {ws : List W} {l : List (Nat × Nat)} (hk : keep.contains j = true) (he : env.set i none = env1) (h : bindA keep r (j + 1) env1 = some (ws, env2, l)) : bindV keep r i j env (.lst ds) = some (.lst ds :: ws, env2, (i, j) :: l) := by
  simp only [bindV, hk, he, h, Option.map, if_true]
theorem bv_c {ks : List Str} {r : List Ar} {ws : List W} {l : List (Nat × Nat)} (hk : keep.contains j = true) (he : env.set i none = env1) (h : bindA keep r (j + 1) env1 = some (ws, env2, l)) : bindV keep r i j env (.dct ks ds) = some (.dct ks ds :: ws, env2, (i, j) :: l) := by
  simp only [bindV, hk, he, h, Option.map, if_true]
theorem bk_nil {outs : Env} : backA outs env [] = env := rfl
theorem bk_c {outs : Env} {l : List (Nat × Nat)} {o : Option W} (h : backA outs env l = env1) (hg : slot outs j = o) (he : env1.set i o = env2) : backA outs env ((i, j) :: l) = env2 := by
  simp only [backA, h]; rw [← he, ← hg]; rfl
/-! ### expressions -/
theorem xv (h : slot env i = some w) : evE P cf keep (.var i) env = .ok (.vr i) env := by simp only [evE, h]
theorem xk_n : evE P cf keep (.k .non) env = .ok (.val (.d .non)) env := by simp only [evE]; rfl
theorem xk_b : evE P cf keep (.k (.bl t)) env = .ok (.val (.d (.bl t))) env := by simp only [evE]; rfl
theorem xk_i : evE P cf keep (.k (.int m)) env = .ok (.val (.d (.int m))) env := by simp only [evE]; rfl
theorem xk_s {s : Str} : evE P cf keep (.k (.str s)) env = .ok (.val (.d (.str s))) env := by simp only [evE]; rfl
theorem xglob {s : Str} (h : P.consts.lookup s = some d) : evE P cf keep (.glob s) env = .ok (.val (.d d)) env := by simp only [evE, h, Option.map, Res.of]
theorem xtup (h : evIts P cf keep es env = .ok ds env1) (hl : ds.length ≤ line) : evE P cf keep (.tup es) env = .ok (.val (.d (.tup ds))) env1 := by simp only [evE, h, Res.bind, if_pos hl]
theorem xlst (h : evIts P cf keep es env = .ok ds env1) (hl : ds.length ≤ line) : evE P cf keep (.lst es) env = .ok (.val (.lst ds)) env1 := by simp only [evE, h, Res.bind, if_pos hl]
theorem xdct {ks : List Str} (h : evIts P cf keep es env = .ok ds env1) : evE P cf keep (.dct ks es) env = .ok (.val (.dct ks ds)) env1 := by simp only [evE, h, Res.bind]
theorem xbin {o : Bo} (ha : evE P cf keep a env = .ok x env1) (hb : evE P cf keep b env1 = .ok y env2) (hx : use env2 x = some dx) (hy : use env2 y = some dy) (ho : binF o dx dy = some w) : evE P cf keep (.bin o a b) env = .ok (.val w) env2 := by
  simp only [evE, ha, hb, hx, hy, ho, Res.bind, Option.map, Res.of]
theorem xneg (ha : evE P cf keep a env = .ok x env1) (hx : use env1 x = some (.int m)) : evE P cf keep (.neg a) env = .ok (.val (.d (.int (-m)))) env1 := by
  simp only [evE, ha, hx, Res.bind]
theorem xcmp {o : Co} (ha : evE P cf keep a env = .ok x env1) (hb : evE P cf keep b env1 = .ok y env2) (hx : use env2 x = some dx) (hy : use env2 y = some dy) (ho : cmpF o dx dy = some t) : evE P cf keep (.cmp o a b) env = .ok (.val (.d (.bl t))) env2 := by
  simp only [evE, ha, hb, hx, hy, ho, Res.bind, Option.map, Res.of]
theorem ite_t {α : Type} {p q r : α} (ht : t = true) (h : p = r) : (if t = true then p else q) = r := by rw [if_pos ht, h]
theorem ite_f {α : Type} {p q r : α} (ht : t = false) (h : q = r) : (if t = true then p else q) = r := by rw [if_neg (by rw [ht]; decide), h]
def chK (P : Prog) (cf : Str → List W → CRes) (keep : List Nat) (o2 : Co) (c : E) (y : Ar) (env : Env) : Res Ar := (evE P cf keep c env).bind fun z env => match use env y, use env z with
  | some dy, some dz => Res.of ((cmpF o2 dy dz).map fun b => .val (.d (.bl b))) env
  | _, _ => .bad
theorem xch {o1 o2 : Co} {t1 : Bool} {r : Res Ar} (ha : evE P cf keep a env = .ok x env1) (hb : evE P cf keep b env1 = .ok y env2) (hx : use env2 x = some dx) (hy : use env2 y = some dy) (ho : cmpF o1 dx dy = some t1) (h : (if t1 = true then chK P cf keep o2 c y env2 else .ok (.val (.d (.bl false))) env2) = r) :
    evE P cf keep (.chain o1 o2 a b c) env = r := by
  rw [← h]
  cases t1 <;> simp only [evE, ha, hb, hx, hy, ho, Res.bind, Option.map, Res.of, chK, if_true, Bool.false_eq_true, if_false] <;> rfl
theorem xchk {o2 : Co} (hc : evE P cf keep c env = .ok z env1) (hy2 : use env1 y = some d) (hz : use env1 z = some dz) (ho2 : cmpF o2 d dz = some t) : chK P cf keep o2 c y env = .ok (.val (.d (.bl t))) env1 := by
  simp only [chK, hc, hy2, hz, ho2, Res.bind, Option.map, Res.of]
theorem useB_ok (ha : evE P cf keep a env = .ok x env1) (hx : use env1 x = some (.bl t)) : useB (evE P cf keep a env) = .ok t env1 := by
  simp only [useB, ha, Res.bind, hx]
theorem xandE {r : Res Ar} (ha : evE P cf keep a env = .ok x env1) (hx : use env1 x = some (.bl t)) (h : (if t = true then evE P cf keep b env1 else .ok (.val (.d (.bl false))) env1) = r) : evE P cf keep (.and a b) env = r := by
  simp only [evE, useB_ok ha hx, Res.bind, h]
theorem xorE {r : Res Ar} (ha : evE P cf keep a env = .ok x env1) (hx : use env1 x = some (.bl t)) (h : (if t = true then .ok (.val (.d (.bl true))) env1 else evE P cf keep b env1) = r) : evE P cf keep (.or a b) env = r := by
  simp only [evE, useB_ok ha hx, Res.bind, h]
theorem xnotE (ha : evE P cf keep a env = .ok x env1) (hx : use env1 x = some (.bl t)) : evE P cf keep (.not a) env = .ok (.val (.d (.bl (!t)))) env1 := by
  simp only [evE, useB_ok ha hx, Res.bind]
theorem xif {r : Res Ar} (ha : evE P cf keep c env = .ok x env1) (hx : use env1 x = some (.bl t)) (h : (if t = true then evE P cf keep a env1 else evE P cf keep b env1) = r) : evE P cf keep (.ifx c a b) env = r := by
  simp only [evE, useB_ok ha hx, Res.bind, h]
theorem xcall {f : Str} {fn : Fn} {ars : List Ar} {ws : List W} {l : List (Nat × Nat)} {outs : Env} (hf : P.fns.lookup f = some fn) (ha : evAs P cf keep es env = .ok ars env1) (hb : bindA fn.keep ars 0 env1 = some (ws, env2, l)) (hc : cf f ws = .ok w outs) (hk : backA outs env2 l = env3) :
    evE P cf keep (.call f es) env = .ok (.val w) env3 := by
  simp only [evE, hf, ha, Res.bind, callA, hb, hc, hk]
theorem xbi {f : Bi} (ha : evE P cf keep a env = .ok x env1) (hx : use env1 x = some dx) (ho : biF f dx = some w) : evE P cf keep (.bi f a) env = .ok (.val w) env1 := by
  simp only [evE, ha, hx, ho, Res.bind, Option.map, Res.of]
theorem xmm {mx : Bool} (ha : evE P cf keep a env = .ok x env1) (hb : evE P cf keep b env1 = .ok y env2) (hx : use env2 x = some (.int m)) (hy : use env2 y = some (.int n)) : evE P cf keep (.mm mx a b) env = .ok (.val (.d (.int (if mx = true then (if n > m then n else m) else (if n < m then n else m))))) env2 := by
  simp only [evE, ha, hb, hx, hy, Res.bind]
theorem xisi {ty : Ty} (ha : evE P cf keep a env = .ok x env1) (hx : use env1 x = some dx) (ho : dx.isTy ty = some t) : evE P cf keep (.isi a ty) env = .ok (.val (.d (.bl t))) env1 := by
  simp only [evE, ha, hx, ho, Res.bind, Option.map, Res.of]
theorem xix (ha : evE P cf keep a env = .ok x env1) (hb : evE P cf keep b env1 = .ok y env2) (hx : use env2 x = some dx) (hy : use env2 y = some dy) (ho : ixF dx dy = some d) : evE P cf keep (.ix a b) env = .ok (.val (.d d)) env2 := by
  simp only [evE, ha, hb, hx, hy, ho, Res.bind, Option.map, Res.of]
theorem pb_ok (hx : use env x = some (.int m)) : partB x env = .ok (some m) env := by simp only [partB, hx]
def poK (P : Prog) (cf : Str → List W → CRes) (keep : List Nat) (e : E) (env : Env) : Res (Option Int) := if e.isNone = true then .ok none env else (evE P cf keep e env).bind partB
theorem po_n : poK P cf keep .none env = .ok none env := rfl
theorem po_s (hn : b.isNone = false) (hb : evE P cf keep b env = .ok y env1) (hy : use env1 y = some (.int m)) : poK P cf keep b env = .ok (some m) env1 := by
  unfold poK
  rw [if_neg (by rw [hn]; decide)]
  simp only [hb, Res.bind, pb_ok hy]
theorem xslc {lo hi : Option Int} (ha : evE P cf keep a env = .ok x env1) (hb : poK P cf keep b env1 = .ok lo env2) (hc : poK P cf keep c env2 = .ok hi env3) (hx : use env3 x = some dx) (ho : slcF dx lo hi = some w) : evE P cf keep (.slc a b c) env = .ok (.val w) env3 := by
  unfold poK at hb hc
  simp only [evE, ha, Res.bind] at hb hc ⊢
  rw [hb]
  simp only [hc, hx, ho, Option.map, Res.of]
theorem xrev (ha : evE P cf keep a env = .ok x env1) (hx : use env1 x = some dx) (ho : revF dx = some d) : evE P cf keep (.rev a) env = .ok (.val (.d d)) env1 := by
  simp only [evE, ha, hx, ho, Res.bind, Option.map, Res.of]
theorem rv_t : revF (.tup ds) = some (.tup ds.reverse) := rfl
theorem rv_s {s : Str} (h : s.length ≤ line) : revF (.str s) = some (.str (revS s)) := if_pos h
theorem ua_nil : useAll env [] = some [] := rfl
theorem ua_c {r : List Ar} (hx : use env x = some dx) (h : useAll env r = some ds) : useAll env (x :: r) = some (dx :: ds) := by simp only [useAll, hx, h]
theorem xbm {mm : Bm} {ars : List Ar} (ha : evE P cf keep a env = .ok x env1) (hb : evAs P cf keep es env1 = .ok ars env2) (hx : use env2 x = some dx) (hd : useAll env2 ars = some ds) (ho : bmF mm dx ds = some w) : evE P cf keep (.bm mm a es) env = .ok (.val w) env2 := by
  simp only [evE, ha, hb, hx, hd, ho, Res.bind, Option.map, Res.of]
theorem xmut {mm : Mm} {xs ys : List D} (hs : slot env i = some (.lst xs)) (ha : evIts P cf keep es env = .ok ds env1) (hs2 : slot env1 i = some (.lst ys)) (ho : mutF mm (.lst ys) ds = some (d, w)) (he : env1.set i (some w) = env2) : evE P cf keep (.mut mm i es) env = .ok (.val (.d d)) env2 := by
  simp only [evE, hs, ha, Res.bind, hs2, ho, he]
theorem xlr {xs : List D} (ha : evE P cf keep a env = .ok x env1) (hx : use env1 x = some (.int m)) (hl : m ≤ line) (hr : rangeF 0 m = some xs) : evE P cf keep (.listRange a) env = .ok (.val (.lst xs)) env1 := by
  simp only [evE, ha, Res.bind, hx, hr, Res.of, if_pos hl, Option.map]
theorem xfstr {z : Str} (h : evJs P cf keep es Str.empty env = .ok z env1) : evE P cf keep (.fstr es) env = .ok (.val (.d (.str z))) env1 := by simp only [evE, h, Res.bind]
theorem js_n {acc : Str} : evJs P cf keep .nil acc env = .ok acc env := by simp only [evJs]
theorem js_c {acc z y : Str} (ha : evE P cf keep a env = .ok x env1) (hx : use env1 x = some (.str y)) (hl : (acc ++ y).length ≤ line) (h : evJs P cf keep es (acc ++ y) env1 = .ok z env2) : evJs P cf keep (.cons a es) acc env = .ok z env2 := by
  simp only [evJs, ha, hx, Res.bind, if_pos hl, h]
/-! ### lists of expressions -/
theorem is_nil : evIts P cf keep .nil env = .ok [] env := by simp only [evIts]
theorem is_c (ha : evE P cf keep a env = .ok x env1) (hi : item x env1 = .ok d env2) (h : evIts P cf keep es env2 = .ok ds env3) : evIts P cf keep (.cons a es) env = .ok (d :: ds) env3 := by
  simp only [evIts, ha, hi, h, Res.bind]
theorem is_s {xs : List D} (ha : evE P cf keep a env = .ok x env1) (hi : item x env1 = .ok d env2) (hs : d = .lst xs ∨ d = .tup xs) (h : evIts P cf keep es env2 = .ok ds env3) : evIts P cf keep (.star a es) env = .ok (xs ++ ds) env3 := by
  rcases hs with hs | hs <;> subst hs <;> simp only [evIts, ha, hi, h, Res.bind]
theorem aa_nil : evAs P cf keep .nil env = .ok [] env := by simp only [evAs]
theorem aa_c {ars : List Ar} (ha : evE P cf keep a env = .ok x env1) (h : evAs P cf keep es env1 = .ok ars env2) : evAs P cf keep (.cons a es) env = .ok (x :: ars) env2 := by
  simp only [evAs, ha, h, Res.bind]
/-! ### what is walked -/
theorem w_seq {xs : List D} (ha : evE P cf keep a env = .ok x env1) (hi : item x env1 = .ok d env2) (ho : itemsF d = some xs) : evIt P cf keep (.seq a) env = .ok xs env2 := by
  simp only [evIt, ha, hi, ho, Res.bind, Res.of]
theorem if_t {xs : List D} : itemsF (.tup xs) = some xs := rfl
theorem if_l {xs : List D} : itemsF (.lst xs) = some xs := rfl
theorem w_r1 {xs : List D} (ha : evE P cf keep a env = .ok x env1) (hx : use env1 x = some (.int m)) (hr : rangeF 0 m = some xs) : evIt P cf keep (.range1 a) env = .ok xs env1 := by
  simp only [evIt, ha, hx, hr, Res.bind, Res.of]
theorem w_r2 {xs : List D} (ha : evE P cf keep a env = .ok x env1) (hb : evE P cf keep b env1 = .ok y env2) (hx : use env2 x = some (.int m)) (hy : use env2 y = some (.int n)) (hr : rangeF m n = some xs) : evIt P cf keep (.range2 a b) env = .ok xs env2 := by
  simp only [evIt, ha, hb, hx, hy, hr, Res.bind, Res.of]
theorem w_zip {xs : List D} (ha : evE P cf keep a env = .ok x env1) (hx : item x env1 = .ok dx env2) (hb : evE P cf keep b env2 = .ok y env3) (hy : item y env3 = .ok dy env4) (ho : zipF dx dy = some xs) : evIt P cf keep (.zip a b) env = .ok xs env4 := by
  simp only [evIt, ha, hb, hx, hy, ho, Res.bind, Res.of]
theorem w_enum {xs : List D} (ha : evE P cf keep a env = .ok x env1) (hx : item x env1 = .ok dx env2) (ho : enumF dx = some xs) : evIt P cf keep (.enum a) env = .ok xs env2 := by
  simp only [evIt, ha, hx, ho, Res.bind, Res.of]
/-! ### statements -/
variable {ss A B : Ss} {r : Fl} {s : S}
theorem q_nil : evSs P cf keep .nil env = .nx env := by simp only [evSs]
theorem q_c (h : evS P cf keep s env = .nx env1) (h2 : evSs P cf keep ss env1 = r) : evSs P cf keep (.cons s ss) env = r := by simp only [evSs, h, Fl.then, h2]
theorem q_ret (h : evE P cf keep a env = .ok x env1) (ht : take x env1 = .ok w env2) : evSs P cf keep (.cons (.ret a) ss) env = .rt w env2 := by
  simp only [evSs, evS, h, ht, Res.fl, Fl.then]
theorem evSs_app : ∀ (A ss : Ss) (env : Env), evSs P cf keep (A.app ss) env = (evSs P cf keep A env).then fun env => evSs P cf keep ss env
  | .nil, ss, env => by simp only [Ss.app, evSs, Fl.then]
  | .cons s A, ss, env => by
    simp only [Ss.app, evSs]
    cases evS P cf keep s env <;> simp only [Fl.then]
    exact evSs_app A ss _
theorem q_if (h : evE P cf keep c env = .ok x env1) (hx : use env1 x = some (.bl t)) (h2 : (if t = true then evSs P cf keep (A.app ss) env1 else evSs P cf keep (B.app ss) env1) = r) : evSs P cf keep (.cons (.ife c A B) ss) env = r := by
  rw [← h2]
  cases t <;> simp only [evSs_app, evSs, evS, useB_ok h hx, Res.fl, if_true, Bool.false_eq_true, if_false]
theorem q_an (h : evSs P cf keep ss env = r) : evSs P cf keep (Ss.app .nil ss) env = r := h
theorem q_ac (h : evSs P cf keep (.cons s (A.app ss)) env = r) : evSs P cf keep (Ss.app (.cons s A) ss) env = r := h
def setK (keep : List Nat) (i : Nat) (env : Env) : Ar → Fl
  | .vr j => (item (.vr j) env).fl fun d env => nxO (store keep i (.d d) env)
  | .val w => nxO (store keep i w env)
theorem gs_set (h : evE P cf keep a env = .ok x env1) (h2 : setK keep i env1 x = r) : evS P cf keep (.set i a) env = r := by
  cases x <;> simp only [evS, h, Res.fl] <;> exact h2
theorem sk_v (hi : item (.vr j) env = .ok d env1) (hs : store keep i (.d d) env1 = some env2) : setK keep i env (.vr j) = .nx env2 := by
  simp only [setK, hi, Res.fl, hs, nxO]
theorem sk_w (hs : store keep i w env = some env1) : setK keep i env (.val w) = .nx env1 := by
  simp only [setK, hs, nxO]
def parK (keep : List Nat) (i j : Nat) (env : Env) : Ar → Ar → Fl
  | .val w, .val u => nxO ((store keep i w env).bind (store keep j u))
  | x, y => (item x env).fl fun dx env => (item y env).fl fun dy env => nxO ((store keep i (.d dx) env).bind (store keep j (.d dy)))
theorem gs_par (h : evE P cf keep a env = .ok x env1) (h2 : evE P cf keep b env1 = .ok y env2) (h3 : parK keep i j env2 x y = r) : evS P cf keep (.par i j a b) env = r := by
  cases x <;> cases y <;> simp only [evS, h, h2, Res.fl] <;> exact h3
theorem pk_ww (hs : store keep i w env = some env1) (hs2 : store keep j u env1 = some env2) : parK keep i j env (.val w) (.val u) = .nx env2 := by
  simp only [parK, hs, hs2, nxO, Option.bind]
theorem pk_v {k : Nat} (hx : item (.vr k) env = .ok dx env1) (hy : item y env1 = .ok dy env2) (hs : store keep i (.d dx) env2 = some env3) (hs2 : store keep j (.d dy) env3 = some env4) : parK keep i j env (.vr k) y = .nx env4 := by
  cases y <;> simp only [parK, hx, hy, hs, hs2, nxO, Option.bind, Res.fl]
theorem pk_wv {k : Nat} (hx : item (.val w) env = .ok dx env1) (hy : item (.vr k) env1 = .ok dy env2) (hs : store keep i (.d dx) env2 = some env3) (hs2 : store keep j (.d dy) env3 = some env4) : parK keep i j env (.val w) (.vr k) = .nx env4 := by
  simp only [parK, hx, hy, hs, hs2, nxO, Option.bind, Res.fl]
theorem gs_unp {tg : Tg} (h : evE P cf keep a env = .ok x env1) (hi : item x env1 = .ok d env2) (hs : assignTg keep tg d env2 = some env3) : evS P cf keep (.unp tg a) env = .nx env3 := by
  simp only [evS, h, Res.fl, hi, hs, nxO]
theorem gs_six (h : evE P cf keep a env = .ok x env1) (hi : item x env1 = .ok d env2) (hs : slot env2 i = some u) (hb : evE P cf keep b env2 = .ok y env3) (hy : use env3 y = some dy) (hs2 : slot env3 i = some w) {w' : W} (ho : setF w dy d = some w') (he : env3.set i (some w') = env4) : evS P cf keep (.setix i b a) env = .nx env4 := by
  simp only [evS, h, Res.fl, hi, hs, hb, hy, hs2, ho, he]
theorem gs_expr (h : evE P cf keep a env = .ok x env1) : evS P cf keep (.expr a) env = .nx env1 := by
  simp only [evS, h, Res.fl]
theorem gs_pass : evS P cf keep .pass env = .nx env := by simp only [evS]
theorem gs_for {tg : Tg} {it : It} {xs : List D} (h : evIt P cf keep it env = .ok xs env1) (h2 : forL keep tg (fun env => evSs P cf keep A env) xs env1 = r) : evS P cf keep (.for tg it A) env = r := by
  simp only [evS, h, Res.fl, h2]
end
/-! ### exceptions -/
section
variable {P : Prog} {cf : Str → List W → CRes} {keep : List Nat} {env env1 env2 env3 env4 : Env} {a : E} {x : Ar} {dx d : D} {t : Bool} {c : Str} {i n m : Nat} {ss : Ss} {f : Fl}
theorem xmk (hk : P.excs.contains c = true) (ha : evE P cf keep a env = .ok x env1) (hi : item x env1 = .ok d env2) : evE P cf keep (.mk c a) env = .ok (.val (.d (.exc c d))) env2 := by
  simp only [evE, if_pos hk, ha, hi, Res.bind]
theorem xfldv (ha : evE P cf keep a env = .ok x env1) (hx : use env1 x = some (.exc c d)) (hk : P.excs.contains c = true) : evE P cf keep (.fldv a) env = .ok (.val (.d d)) env1 := by
  simp only [evE, ha, hx, Res.bind, valF, if_pos hk, Option.map, Res.of]
theorem xisx {k : Str} (hk : P.excs.contains k = true) (ha : evE P cf keep a env = .ok x env1) (hx : use env1 x = some dx) (ho : isxF P.excs k dx = some t) : evE P cf keep (.isx a k) env = .ok (.val (.d (.bl t))) env1 := by
  simp only [evE, if_pos hk, ha, hx, ho, Res.bind, Option.map, Res.of]
theorem xheard {h : Str} {e : E} {env env1 env2 : Env} {a : Ar} {d : D} (hk : P.hears.contains h = true) (hu : P.excs.contains "TypeUnknown" = true) (he : evE P cf keep e env = .ok a env1) (hi : item a env1 = .ok d env2) : evE P cf keep (.heard h e) env = .ok (.val (.d (.tup [.non, d]))) env2 := by
  unfold evE
  rw [if_pos ⟨hk, hu⟩, he]
  show hearF P.excs (item a env1) = _
  rw [hi]; rfl
theorem xheardX {h c : Str} {e : E} {env env1 : Env} {y : D} (hk : P.hears.contains h = true) (hu : P.excs.contains "TypeUnknown" = true) (he : evE P cf keep e env = .exc (.exc c y) env1) (hc : P.excs.contains c = true) : evE P cf keep (.heard h e) env = .ok (.val (.d (.tup [.exc c y, .non]))) env1 := by
  unfold evE
  rw [if_pos ⟨hk, hu⟩, he]
  exact if_pos hc
theorem xisv (ha : evE P cf keep a env = .ok x env1) (hx : use env1 x = some dx) (ho : isvF P.excs dx = some t) : evE P cf keep (.isv a) env = .ok (.val (.d (.bl t))) env1 := by
  simp only [evE, ha, hx, ho, Res.bind, Option.map, Res.of]
theorem ix_exc {k : Str} (hk : P.excs.contains c = true) : isxF P.excs k (.exc c d) = some (decide (c = k) || decide (k = "TypeUnknown")) := if_pos hk
theorem iv_exc (hk : P.excs.contains c = true) : isvF P.excs (.exc c d) = some true := if_pos hk
theorem gs_raise (hk : P.excs.contains c = true) (ha : evE P cf keep a env = .ok x env1) (hi : item x env1 = .ok d env2) : evSs P cf keep (.cons (.raise c a) ss) env = .ex (.exc c d) env2 := by
  simp only [evSs, evS, if_pos hk, ha, hi, Res.fl, Fl.then]
theorem gs_tryraise (hk : P.excs.contains c = true) (ha : evE P cf keep a env = .ok x env1) (hi : item x env1 = .ok d env2) (hc : catchF P keep n m (.ex (.exc c d) env2) = f) : evS P cf keep (.tryraise c a n m) env = f := by
  simp only [evS, if_pos hk, ha, hi, Res.fl, hc]
theorem cf_ex (hk : P.excs.contains c = true) (hn : n ≠ m) (hkn : keep.contains n = false) (hl : n < env.length) (hs : store keep m (.d (.exc c d)) env = some env1) (he : env1.set n none = env2) : catchF P keep n m (.ex (.exc c d) env) = .nx env2 := by
  show (if _ then _ else _) = _
  rw [if_pos ⟨hk, hn, hkn, hl⟩, hs]
  simp only [Option.map, nxO, he]
/-- [e for x in xs] -/
theorem lc1 {elt : E} {it : It} {nm : Str} {xs : List D} {g : D → D} {env0 : Env} (hi : evIt P cf keep it env = .ok xs env1) (he0 : env1.set i none = env0) (hk : keep.contains i = false) (hl : i < env1.length) (hlen : xs.length ≤ line)
    (h : ∀ x ∈ xs, ∃ e1 a e2 e3, env0.set i (some (.d x)) = e1 ∧ evE P cf keep elt e1 = .ok a e2 ∧ item a e2 = .ok (g x) e3 ∧ e3.set i none = env0) : evE P cf keep (.lc elt (.one i) it .none [(nm, i)]) env = .ok (.val (.lst (xs.map g))) env0 := by
  have hl0 : i < env0.length := by rw [← he0, List.length_set]; exact hl
  have h00 : env0.set i none = env0 := by rw [← he0, List.set_set]
  obtain ⟨env', e, q⟩ := lcL_map (keep := keep) (tg := .one i) (own := [(nm, i)]) (ct := fun env => if E.none.isNone = true then .ok true env else useB (evE P cf keep .none env)) (ce := fun env => (evE P cf keep elt env).bind item) g (fun env => env.set i none = env0) xs [] env1
    (fun x hx env q => by
      obtain ⟨e1, a, e2, e3, h1, h2, h3, h4⟩ := h x hx
      refine ⟨e1, e1, e3, ?_, rfl, ?_, ?_⟩
      · show store keep i (.d x) (env.set i none) = _
        rw [q]
        exact st_ok hk hl0 h1
      · show (evE P cf keep elt e1).bind item = _
        rw [h2]
        exact h3
      · show (e3.set i none).set i none = env0
        rw [List.set_set]; exact h4) he0 (by simpa using hlen)
  have e : lcL keep (.one i) [(nm, i)] (fun env => if E.none.isNone = true then .ok true env else useB (evE P cf keep .none env)) (fun env => (evE P cf keep elt env).bind item) xs [] env1 = .ok (xs.map g) env' := e
  have w : wipeE env' [(nm, i)] = env0 := q
  simp only [evE, hi, Res.bind] at e ⊢
  rw [e]
  simp only [w]
end
/-! ### operators -/
section
variable {a b : Str} {m n : Int}
theorem o_adds (h : a.length + b.length ≤ line) : binF .add (.str a) (.str b) = some (.d (.str (a ++ b))) := if_pos h
theorem o_addt {xs ys : List D} (h : xs.length + ys.length ≤ line) : binF .add (.tup xs) (.tup ys) = some (.d (.tup (xs ++ ys))) := if_pos h
theorem o_addl {xs ys : List D} (h : xs.length + ys.length ≤ line) : binF .add (.lst xs) (.lst ys) = some (.lst (xs ++ ys)) := if_pos h
theorem c_eqs : cmpF .eq (.str a) (.str b) = some (decide (a = b)) := rfl
theorem c_eqi : cmpF .eq (.int m) (.int n) = some (decide (m = n)) := rfl
theorem c_nes : cmpF .ne (.str a) (.str b) = some (!decide (a = b)) := rfl
theorem c_nei : cmpF .ne (.int m) (.int n) = some (!decide (m = n)) := rfl
theorem c_lt : cmpF .lt (.int m) (.int n) = some (decide (m < n)) := rfl
theorem c_le : cmpF .le (.int m) (.int n) = some (decide (m ≤ n)) := rfl
theorem c_gt : cmpF .gt (.int m) (.int n) = some (decide (n < m)) := rfl
theorem c_ge : cmpF .ge (.int m) (.int n) = some (decide (n ≤ m)) := rfl
theorem c_eqD {x y : D} {t : Bool} (h : eqF x y = some t) : cmpF .eq x y = some t := h
theorem c_neD {x y : D} {t : Bool} (h : eqF x y = some t) : cmpF .ne x y = some (!t) := by show (eqF x y).map (!·) = _; rw [h]; rfl
theorem en_l {xs : List D} : enumF (.lst xs) = some (enumL xs) := rfl
theorem en_t {xs : List D} : enumF (.tup xs) = some (enumL xs) := rfl
theorem en_s {z : Str} : enumF (.str z) = some (enumL (signsD z)) := rfl
theorem nn_non : D.non.isNon = true := rfl
theorem nn_t {xs : List D} : (D.tup xs).isNon = false := rfl
theorem nn_l {xs : List D} : (D.lst xs).isNon = false := rfl
theorem nn_s {s : Str} : (D.str s).isNon = false := rfl
theorem nn_i : (D.int m).isNon = false := rfl
theorem nn_b {t : Bool} : (D.bl t).isNon = false := rfl
theorem nn_c {ks : List Str} {vs : List D} : (D.dct ks vs).isNon = false := rfl
theorem nn_x {c : Str} {v : D} : (D.exc c v).isNon = false := rfl
theorem c_isN {x : D} {t : Bool} (h : x.isNon = t) : cmpF .isN x .non = some t := by show some _ = _; rw [h]
theorem c_notN {x : D} {t : Bool} (h : x.isNon = t) : cmpF .notN x .non = some (!t) := by show some _ = _; rw [h]
theorem c_in {x y : D} {t : Bool} (h : isinF x y = some t) : cmpF .isin x y = some t := h
theorem c_nin {x y : D} {t : Bool} (h : isinF x y = some t) : cmpF .notin x y = some (!t) := by show (isinF x y).map (!·) = _; rw [h]; rfl
theorem c_ink {ks : List Str} {ds : List D} : isinF (.str a) (.dct ks ds) = some (ks.contains a) := rfl
theorem l_tup {xs : List D} : biF .len (.tup xs) = some (.d (.int xs.length)) := rfl
theorem l_lst {xs : List D} : biF .len (.lst xs) = some (.d (.int xs.length)) := rfl
theorem l_str (h : a.length ≤ line) : biF .len (.str a) = some (.d (.int a.length)) := if_pos h
theorem l_scr {ns : List Int} : biF .len (.scr ns) = some (.d (.int ns.length)) := rfl
theorem b_tt {xs : List D} : biF .tuple (.tup xs) = some (.d (.tup xs)) := rfl
theorem b_tl {xs : List D} : biF .tuple (.lst xs) = some (.d (.tup xs)) := rfl
theorem b_lt {xs : List D} : biF .list (.tup xs) = some (.lst xs) := rfl
theorem b_ll {xs : List D} : biF .list (.lst xs) = some (.lst xs) := rfl
theorem b_all {xs : List D} {bs : List Bool} (h : allBl xs = some bs) : biF .all (.lst xs) = some (.d (.bl (bs.all id))) := by show (allBl xs).map _ = _; rw [h]; rfl
theorem b_any {xs : List D} {bs : List Bool} (h : allBl xs = some bs) : biF .any (.lst xs) = some (.d (.bl (bs.any id))) := by show (allBl xs).map _ = _; rw [h]; rfl
theorem b_repr {x d : D} (h : reprF x = some d) : biF .repr x = some (.d d) := by show (reprF x).map _ = _; rw [h]; rfl
theorem b_ii : biF .int (.int m) = some (.d (.int m)) := rfl
theorem b_ib {t : Bool} : biF .int (.bl t) = some (.d (.int (if t = true then 1 else 0))) := by cases t <;> rfl
theorem b_abs : biF .abs (.int m) = some (.d (.int (if m < 0 then -m else m))) := rfl
theorem x_t {xs : List D} {d : D} (h : L2.atI xs m = some d) : ixF (.tup xs) (.int m) = some d := h
theorem x_l {xs : List D} {d : D} (h : L2.atI xs m = some d) : ixF (.lst xs) (.int m) = some d := h
theorem x_d {ks : List Str} {vs : List D} {d : D} (h : (ks.zip vs).lookup a = some d) : ixF (.dct ks vs) (.str a) = some d := h
theorem m_app {xs : List D} {y : D} (h : xs.length < line) : mutF .append (.lst xs) [y] = some (.non, .lst (xs ++ [y])) := if_pos h
theorem m_ext {xs ys : List D} (h : xs.length + ys.length ≤ line) : mutF .extend (.lst xs) [.lst ys] = some (.non, .lst (xs ++ ys)) := if_pos h
theorem at0' {α : Type} {x : α} {l : List α} : L2.atI (x :: l) 0 = some x := at0
end
end PyEv

set_option maxRecDepth 100000
set_option maxHeartbeats 4000000
/-! PyPot: what all laws draw from. -/
namespace PyEv
open PySem (Str PyData)
def takeBody (f g : Int) : Ss := (.cons (.ife (.cmp .gt (.ix (.var 0) (.k (.int 0))) (.k (.int 0))) (.cons (.set 2 (.bin .mod (.bi .int (.ix (.var 0) (.k (.int 0)))) (.var 1))) (.cons (.setix 0 (.k (.int 0)) (.bin .fdv (.ix (.var 0) (.k (.int 0))) (.var 1))) (.cons (.ret (.var 2)) .nil))) .nil) (.cons (.setix 0 (.k (.int 2)) (.bin .add (.ix (.var 0) (.k (.int 2))) (.k (.int 1)))) (.cons (.set 3 (.ix (.lst (.cons (.k (.int 2147483647)) (.cons (.k (.int 2147483629)) (.cons (.k (.int 2147483587)) (.cons (.k (.int 2147483579)) (.cons (.k (.int 2147483563)) .nil)))))) (.bin .mod (.bi .int (.ix (.var 0) (.k (.int 2)))) (.k (.int 5))))) (.cons (.set 4 (.bin .mod (.bi .int (.bin .pow (.bi .int (.bin .add (.bin .add (.ix (.var 0) (.k (.int 1))) (.bin .mul (.bin .mul (.k (.int f)) (.ix (.var 0) (.k (.int 2)))) (.ix (.var 0) (.k (.int 2))))) (.k (.int g)))) (.k (.int 3)))) (.var 3))) (.cons (.set 4 (.bin .mod (.bi .int (.bin .mul (.var 4) (.bin .add (.bin .mod (.bi .int (.var 4)) (.k (.int 10331))) (.bin .mul (.k (.int 181)) (.ix (.var 0) (.k (.int 2))))))) (.k (.int 2305843009213693907)))) (.cons (.ret (.bin .mod (.bi .int (.bin .fdv (.var 4) (.k (.int 151)))) (.var 1))) .nil))))))
def ofBody : Ss := (.cons (.ret (.ix (.var 1) (.call "_law_take" (.cons (.var 0) (.cons (.bi .len (.var 1)) .nil))))) .nil)
def potBody (p1 p2 p3 p4 p5 : Int) : Ss := (.cons (.set 2 (.ifx (.cmp .lt (.var 1) (.bi .len (.var 0))) (.ix (.var 0) (.var 1)) (.bin .add (.bin .mul (.k (.int p1)) (.var 1)) (.k (.int p2))))) (.cons (.set 3 (.bin .mul (.bin .mod (.bi .int (.bi .abs (.var 2))) (.bin .pow (.bin .pow (.k (.int 10)) (.k (.int 60))) (.k (.int 5)))) (.bi .int (.cmp .ge (.bi .abs (.var 2)) (.bin .pow (.k (.int 10)) (.k (.int 18))))))) (.cons (.set 4 (.bin .mod (.bi .int (.var 2)) (.k (.int 2305843009213693951)))) (.cons (.ret (.lst (.cons (.var 3) (.cons (.bin .mod (.bi .int (.bin .add (.bin .add (.bin .mul (.var 4) (.k (.int p3))) (.bin .mul (.bin .mul (.k (.int p4)) (.var 1)) (.var 1))) (.k (.int p5)))) (.k (.int 2305843009213693921))) (.cons (.k (.int 0)) .nil))))) .nil))))
def cellsBody : Ss := (.cons (.ret (.listRange (.mm true (.k (.int 1)) (.mm false (.var 1) (.bi .len (.var 0)))))) .nil)
def lawLc (m : Int) : E := (.lc (.call "_law_right" (.cons (.call "_law_pot" (.cons (.var 0) (.cons (.var 1) .nil))) .nil)) (.one 1) (.seq (.call "_law_cells" (.cons (.var 0) (.cons (.k (.int m)) .nil)))) .none [("_law_place", 1)])
def lawBody (m : Int) : Ss := (.cons (.ret (.bi .all (lawLc m))) .nil)
section
variable {P : Prog}
def PotR (r : Nat) (w : W) : Prop := ∃ a b c : Int, w = .lst [.int a, .int b, .int c] ∧ 0 ≤ a ∧ 0 ≤ b ∧ b < 2 ^ 62 ∧ 0 ≤ c ∧ c + r ≤ 1000000
theorem pot_take {f g : Int} (lk : P.fns.lookup ("_law_take" : Str) = some (⟨2, 5, [0, 1], takeBody f g⟩ : Fn)) (f0 : 0 ≤ f) (f1 : f ≤ 1000000) (g0 : 0 ≤ g) (g1 : g ≤ 1000000) {r : Nat} {w : W} {u : Int} (n : Nat) (h : PotR (r + 1) w) (hu : 1 ≤ u) (hu2 : u ≤ 1000000) :
    ∃ (d : Int) (w' : W) (outs : PyEv.Env), callF P (n + 1) "_law_take" [w, .d (.int u)] = .ok (.d (.int d)) outs ∧ slot outs 0 = some w' ∧ PotR r w' ∧ 0 ≤ d ∧ d < u := by
  obtain ⟨a, b, c, rfl, ha, hb, hb2, hc, hc2⟩ := h
  have u0 : 0 < u := by omega
  have u2 : u ≤ 2 ^ 250 := by omega
  have hf : ∀ a, binF .fdv (.int a) (.int u) = some (.d (.int (a / u))) := fun a => binFdv u0 u2
  have hf2 : ∀ a, binF .fdv (.int a) (.int 151) = some (.d (.int (a / 151))) := fun a => binFdv (by decide) (by decide)
  by_cases h0 : 0 < a
  · have e : callF P (n + 1) "_law_take" [.lst [.int a, .int b, .int c], .d (.int u)] = .ok (.d (.int (a % u))) [some (.lst [.int (a / u), .int b, .int c]), some (.d (.int u)), some (.d (.int (a % u))), none, none] := by
      rw [call_eq lk rfl]
      simp [evSs, evS, evE, evIts, evAs, evIt, Res.bind, Res.fl, Res.of, Fl.then, use, useB, item, take, slot0, slot1, slot2, slot3, slot4, slot5, slot6, slot7, nxO, store, assignTg, Fl.val, D.isTy, W.frz, callA, bindA, backA, ixF, C.d, L2.atI, L2.ixN, biF, cmpF, eqF_str, eqF_int, D.isNon, line, E.isNone, partB, Option.bind, takeBody, h0, binMod, hf, u0, setF, finC]
    exact ⟨_, _, _, e, rfl, ⟨a / u, b, c, rfl, Int.ediv_nonneg ha (by omega), hb, hb2, hc, by omega⟩, Int.emod_nonneg _ (by omega), Int.emod_lt_of_pos _ u0⟩
  · have prime : ∀ k : Int, 0 ≤ k → k < 5 → ∃ p : Int, L2.atI [D.int 2147483647, D.int 2147483629, D.int 2147483587, D.int 2147483579, D.int 2147483563] k = some (.int p) ∧ 0 < p ∧ p ≤ 2147483647 := by
      intro k k0 k5
      have : k = 0 ∨ k = 1 ∨ k = 2 ∨ k = 3 ∨ k = 4 := by omega
      rcases this with rfl | rfl | rfl | rfl | rfl
      all_goals exact ⟨_, rfl, by decide, by decide⟩
    obtain ⟨p, hp, p0, p1⟩ := prime ((c + 1) % 5) (Int.emod_nonneg _ (by decide)) (Int.emod_lt_of_pos _ (by decide))
    have s1 : small f := small_of (by omega) (by omega)
    have s2 : small (c + 1) := small_of (by omega) (by omega)
    have b1 : 0 ≤ f * (c + 1) ∧ f * (c + 1) ≤ 2 ^ 50 := ⟨Int.mul_nonneg f0 (by omega), Int.le_trans (Int.mul_le_mul f1 (show c + 1 ≤ 1000000 by omega) (by omega) (by omega)) (by decide)⟩
    have s3 : small (f * (c + 1)) := small_of (by omega) (by omega)
    have b2 : 0 ≤ f * (c + 1) * (c + 1) ∧ f * (c + 1) * (c + 1) ≤ 2 ^ 50 * 2 ^ 50 := by
      refine ⟨Int.mul_nonneg b1.1 (by omega), Int.mul_le_mul b1.2 (by omega) (by omega) (by omega)⟩
    have s4 : small (b + f * (c + 1) * (c + 1) + g) := small_of (by omega) (by omega)
    generalize hx : (b + f * (c + 1) * (c + 1) + g) ^ 3 % p = x
    have x0 : 0 ≤ x := by rw [← hx]; exact Int.emod_nonneg _ (by omega)
    have x1 : x < p := by rw [← hx]; exact Int.emod_lt_of_pos _ p0
    have s5 : small x := small_of (by omega) (by omega)
    have s6 : small 181 := small_of (by decide) (by decide)
    have y0 : 0 ≤ x % 10331 := Int.emod_nonneg _ (by decide)
    have y1 : x % 10331 < 10331 := Int.emod_lt_of_pos _ (by decide)
    have s7 : small (x % 10331 + 181 * (c + 1)) := small_of (by omega) (by omega)
    have e : ∃ d : Int, callF P (n + 1) "_law_take" [.lst [.int a, .int b, .int c], .d (.int u)] = .ok (.d (.int (d % u))) [some (.lst [.int a, .int b, .int (c + 1)]), some (.d (.int u)), none, some (.d (.int p)), some (.d (.int (x * (x % 10331 + 181 * (c + 1)) % 2305843009213693907)))] := by
      refine ⟨x * (x % 10331 + 181 * (c + 1)) % 2305843009213693907 / 151, ?_⟩
      rw [call_eq lk rfl]
      have i32 : L2.ixN 3 2 = some 2 := rfl
      simp [evSs, evS, evE, evIts, evAs, evIt, Res.bind, Res.fl, Res.of, Fl.then, use, useB, item, take, slot0, slot1, slot2, slot3, slot4, slot5, slot6, slot7, nxO, store, assignTg, Fl.val, D.isTy, W.frz, callA, bindA, backA, ixF, C.d, at0, at1, at2, biF, cmpF, eqF_str, eqF_int, D.isNon, line, E.isNone, partB, Option.bind, i32, takeBody, h0, binMod, hf2, binAdd, binMul, binPow3, u0, u2, setF, finC, hp, p0, s1, s2, s3, s4, s5, s6, s7, hx]
    obtain ⟨d, e⟩ := e
    exact ⟨_, _, _, e, rfl, ⟨a, b, c + 1, rfl, ha, hb, hb2, by omega, by omega⟩, Int.emod_nonneg _ (by omega), Int.emod_lt_of_pos _ u0⟩
theorem get0 {outs : PyEv.Env} {w : W} (h : slot outs 0 = some w) : outs[0]?.getD none = some w := by simpa [slot] using h
theorem get1 {outs : PyEv.Env} {w : W} (h : slot outs 1 = some w) : outs[1]?.getD none = some w := by simpa [slot] using h
theorem at_in {α : Type} {l : List α} {d : Int} (h0 : 0 ≤ d) (h1 : d < l.length) : ∃ x, L2.atI l d = some x ∧ x ∈ l := by
  have hk : d.toNat < l.length := by omega
  refine ⟨l[d.toNat], ?_, List.getElem_mem hk⟩
  have e : d = ((d.toNat : Nat) : Int) := by omega
  have h := L2.atI_nat (List.getElem?_eq_getElem hk)
  rw [← e] at h
  exact h
theorem pot_of {f g : Int} (lk : P.fns.lookup ("_law_take" : Str) = some (⟨2, 5, [0, 1], takeBody f g⟩ : Fn)) (f0 : 0 ≤ f) (f1 : f ≤ 1000000) (g0 : 0 ≤ g) (g1 : g ≤ 1000000) (lo : P.fns.lookup ("_law_of" : Str) = some (⟨2, 2, [0, 1], ofBody⟩ : Fn)) {r : Nat} {w : W} {ds : List D} (n : Nat) (h : PotR (r + 1) w) (h1 : 1 ≤ ds.length) (h2 : ds.length ≤ 1000000) :
    ∃ x w' outs, callF P (n + 2) "_law_of" [w, .d (.tup ds)] = .ok (.d x) outs ∧ slot outs 0 = some w' ∧ PotR r w' ∧ x ∈ ds := by
  obtain ⟨d, w', o1, e1, hs, hw', d0, d1⟩ := pot_take lk f0 f1 g0 g1 n h (u := (ds.length : Int)) (by omega) (by omega)
  obtain ⟨a, b, c, rfl, _⟩ := h
  obtain ⟨x, hx, hm⟩ := at_in d0 d1
  have hg := get0 hs
  refine ⟨x, w', [some w', some (.d (.tup ds))], ?_, rfl, hw', hm⟩
  rw [call_eq lo rfl]
  simp [evSs, evS, evE, evIts, evAs, evIt, Res.bind, Res.fl, Res.of, Fl.then, use, useB, item, take, slot0, slot1, slot2, slot3, slot4, slot5, slot6, slot7, nxO, store, assignTg, Fl.val, D.isTy, W.frz, callA, bindA, backA, ixF, C.d, binF, biF, cmpF, eqF_str, eqF_int, D.isNon, line, E.isNone, partB, Option.bind, ofBody, lk, e1, hg, hx, finC]
theorem pot_of_l {f g : Int} (lk : P.fns.lookup ("_law_take" : Str) = some (⟨2, 5, [0, 1], takeBody f g⟩ : Fn)) (f0 : 0 ≤ f) (f1 : f ≤ 1000000) (g0 : 0 ≤ g) (g1 : g ≤ 1000000) (lo : P.fns.lookup ("_law_of" : Str) = some (⟨2, 2, [0, 1], ofBody⟩ : Fn)) {r : Nat} {w : W} {ds : List D} (n : Nat) (h : PotR (r + 1) w) (h1 : 1 ≤ ds.length) (h2 : ds.length ≤ 1000000) :
    ∃ x w' outs, callF P (n + 2) "_law_of" [w, .lst ds] = .ok (.d x) outs ∧ slot outs 0 = some w' ∧ PotR r w' ∧ x ∈ ds := by
  obtain ⟨d, w', o1, e1, hs, hw', d0, d1⟩ := pot_take lk f0 f1 g0 g1 n h (u := (ds.length : Int)) (by omega) (by omega)
  obtain ⟨a, b, c, rfl, _⟩ := h
  obtain ⟨x, hx, hm⟩ := at_in d0 d1
  have hg := get0 hs
  refine ⟨x, w', [some w', some (.lst ds)], ?_, rfl, hw', hm⟩
  rw [call_eq lo rfl]
  simp [evSs, evS, evE, evIts, evAs, evIt, Res.bind, Res.fl, Res.of, Fl.then, use, useB, item, take, slot0, slot1, slot2, slot3, slot4, slot5, slot6, slot7, nxO, store, assignTg, Fl.val, D.isTy, W.frz, callA, bindA, backA, ixF, C.d, binF, biF, cmpF, eqF_str, eqF_int, D.isNon, line, E.isNone, partB, Option.bind, ofBody, lk, e1, hg, hx, finC]
theorem PotR.le {r q : Nat} {w : W} (h : PotR r w) (hq : q ≤ r) : PotR q w := by
  obtain ⟨a, b, c, rfl, h1, h2, h3, h4, h5⟩ := h
  exact ⟨a, b, c, rfl, h1, h2, h3, h4, by omega⟩
theorem range_len {k : Nat} (hk : k ≤ 1000) : ∃ xs, rangeF 0 (k : Int) = some xs ∧ xs.length = k ∧ xs = (List.range k).map fun i => D.int ((i : Nat) : Int) := by
  refine ⟨(List.range k).map fun i => D.int ((i : Nat) : Int), ?_, by simp, rfl⟩
  unfold rangeF
  rw [if_pos (by omega)]
  simp
def M60 : Int := 10 ^ 60
def M300 : Int := M60 ^ 5
def M18 : Int := 10 ^ 18
theorem binPow {i j : Int} (h : 0 ≤ j ∧ (PySem.Builtin.Int.intBits i : Int) * j ≤ 2 ^ 27) : binF .pow (.int i) (.int j) = some (.d (.int (i ^ j.toNat))) := if_pos h
theorem pow60 : binF .pow (.int 10) (.int 60) = some (.d (.int M60)) := by rw [binPow (by decide +kernel)]; rfl
theorem pow300 : binF .pow (.int M60) (.int 5) = some (.d (.int M300)) := by rw [binPow (by decide +kernel)]; rfl
theorem pow18 : binF .pow (.int 10) (.int 18) = some (.d (.int M18)) := by rw [binPow (by decide +kernel)]; rfl
theorem M300_pos : 0 < M300 := by decide +kernel
theorem M300_le : M300.natAbs.log2 < 400000 := by decide +kernel
theorem mod300 (a : Int) : binF .mod (.int a) (.int M300) = some (.d (.int (a % M300))) := binMod M300_pos
theorem small300 (a : Int) : small (a % M300) := by
  have h1 := Int.emod_nonneg a (show M300 ≠ 0 by decide +kernel)
  have h2 := Int.emod_lt_of_pos a M300_pos
  exact small_le (B := M300.natAbs) (by omega) (by decide +kernel)
theorem mul300_1 (a : Int) : binF .mul (.int (a % M300)) (.int 1) = some (.d (.int (a % M300))) := by
  rw [binMul (small300 a) (small_of (by decide) (by decide)), Int.mul_one]
theorem mul300_0 (a : Int) : binF .mul (.int (a % M300)) (.int 0) = some (.d (.int 0)) := by
  rw [binMul (small300 a) (small_of (by decide) (by decide)), Int.mul_zero]
def potA (p1 p2 : Int) : S := (.set 2 (.ifx (.cmp .lt (.var 1) (.bi .len (.var 0))) (.ix (.var 0) (.var 1)) (.bin .add (.bin .mul (.k (.int p1)) (.var 1)) (.k (.int p2)))))
def potB : S := (.set 3 (.bin .mul (.bin .mod (.bi .int (.bi .abs (.var 2))) (.bin .pow (.bin .pow (.k (.int 10)) (.k (.int 60))) (.k (.int 5)))) (.bi .int (.cmp .ge (.bi .abs (.var 2)) (.bin .pow (.k (.int 10)) (.k (.int 18)))))))
def potC : S := (.set 4 (.bin .mod (.bi .int (.var 2)) (.k (.int 2305843009213693951))))
def potD (p3 p4 p5 : Int) : S := (.ret (.lst (.cons (.var 3) (.cons (.bin .mod (.bi .int (.bin .add (.bin .add (.bin .mul (.var 4) (.k (.int p3))) (.bin .mul (.bin .mul (.k (.int p4)) (.var 1)) (.var 1))) (.k (.int p5)))) (.k (.int 2305843009213693921))) (.cons (.k (.int 0)) .nil)))))
theorem pot_body {p1 p2 p3 p4 p5 : Int} : potBody p1 p2 p3 p4 p5 = .cons (potA p1 p2) (.cons potB (.cons potC (.cons (potD p3 p4 p5) .nil))) := rfl
theorem pot_pot {p1 p2 p3 p4 p5 : Int} (lk : P.fns.lookup ("_law_pot" : Str) = some (⟨2, 5, [0, 1], potBody p1 p2 p3 p4 p5⟩ : Fn)) (b1 : 0 ≤ p1 ∧ p1 ≤ 1000000) (b2 : 0 ≤ p2 ∧ p2 ≤ 1000000) (b3 : 0 ≤ p3 ∧ p3 ≤ 1000000) (b4 : 0 ≤ p4 ∧ p4 ≤ 1000000) (b5 : 0 ≤ p5 ∧ p5 ≤ 1000000) (n : Nat) (ns : List Int) (i : Nat) (hi : i < 6) : ∃ (a b : Int) (outs : PyEv.Env), callF P (n + 1) "_law_pot" [.d (.scr ns), .d (.int (i : Int))] = .ok (.lst [.int a, .int b, .int 0]) outs ∧ 0 ≤ a ∧ 0 ≤ b ∧ b < 2 ^ 62 := by
  have hA : ∃ c, evS P (callF P n) [0, 1] (potA p1 p2) [some (.d (.scr ns)), some (.d (.int (i : Int))), none, none, none] = .nx [some (.d (.scr ns)), some (.d (.int (i : Int))), some (.d (.int c)), none, none] := by
    by_cases h : i < ns.length
    · have h1 : (i : Int) < (ns.length : Int) := by omega
      have h2 := L2.atI_nat (List.getElem?_eq_getElem h)
      refine ⟨ns[i], ?_⟩
      unfold potA
      simp [evSs, evS, evE, evIts, evAs, evIt, Res.bind, Res.fl, Res.of, Fl.then, use, useB, item, take, slot0, slot1, slot2, slot3, slot4, slot5, slot6, slot7, nxO, store, assignTg, Fl.val, D.isTy, W.frz, callA, bindA, backA, ixF, C.d, binF, biF, cmpF, eqF_str, eqF_int, D.isNon, line, E.isNone, partB, Option.bind, h1, h2, biF]
    · have h1 : ¬ (i : Int) < (ns.length : Int) := by omega
      have h3 : binF .mul (.int p1) (.int (i : Int)) = some (.d (.int (p1 * (i : Int)))) := binMul (small_of (by omega) (by omega)) (small_of (by omega) (by omega))
      refine ⟨p1 * (i : Int) + p2, ?_⟩
      unfold potA
      simp [evSs, evS, evE, evIts, evAs, evIt, Res.bind, Res.fl, Res.of, Fl.then, use, useB, item, take, slot0, slot1, slot2, slot3, slot4, slot5, slot6, slot7, nxO, store, assignTg, Fl.val, D.isTy, W.frz, callA, bindA, backA, ixF, C.d, L2.atI, L2.ixN, biF, cmpF, eqF_str, eqF_int, D.isNon, line, E.isNone, partB, Option.bind, h1, h3, binAdd, biF]
  obtain ⟨c, hA⟩ := hA
  have hB : ∃ a, evS P (callF P n) [0, 1] potB [some (.d (.scr ns)), some (.d (.int (i : Int))), some (.d (.int c)), none, none] = .nx [some (.d (.scr ns)), some (.d (.int (i : Int))), some (.d (.int c)), some (.d (.int a)), none] ∧ 0 ≤ a := by
    have nn : ∀ a, 0 ≤ a % M300 := fun a => Int.emod_nonneg a (show M300 ≠ 0 by decide +kernel)
    by_cases hc : c < 0
    · by_cases h18 : M18 ≤ -c
      · refine ⟨(-c) % M300, ?_, nn _⟩
        unfold potB
        simp [evSs, evS, evE, evIts, evAs, evIt, Res.bind, Res.fl, Res.of, Fl.then, use, useB, item, take, slot0, slot1, slot2, slot3, slot4, slot5, slot6, slot7, nxO, store, assignTg, Fl.val, D.isTy, W.frz, callA, bindA, backA, ixF, C.d, L2.atI, L2.ixN, biF, cmpF, eqF_str, eqF_int, D.isNon, line, E.isNone, partB, Option.bind, hc, h18, pow60, pow300, pow18, mod300, mul300_1, mul300_0, biF]
      · refine ⟨0, ?_, by omega⟩
        unfold potB
        simp [evSs, evS, evE, evIts, evAs, evIt, Res.bind, Res.fl, Res.of, Fl.then, use, useB, item, take, slot0, slot1, slot2, slot3, slot4, slot5, slot6, slot7, nxO, store, assignTg, Fl.val, D.isTy, W.frz, callA, bindA, backA, ixF, C.d, L2.atI, L2.ixN, biF, cmpF, eqF_str, eqF_int, D.isNon, line, E.isNone, partB, Option.bind, hc, h18, pow60, pow300, pow18, mod300, mul300_1, mul300_0, biF]
    · by_cases h18 : M18 ≤ c
      · refine ⟨c % M300, ?_, nn _⟩
        unfold potB
        simp [evSs, evS, evE, evIts, evAs, evIt, Res.bind, Res.fl, Res.of, Fl.then, use, useB, item, take, slot0, slot1, slot2, slot3, slot4, slot5, slot6, slot7, nxO, store, assignTg, Fl.val, D.isTy, W.frz, callA, bindA, backA, ixF, C.d, L2.atI, L2.ixN, biF, cmpF, eqF_str, eqF_int, D.isNon, line, E.isNone, partB, Option.bind, hc, h18, pow60, pow300, pow18, mod300, mul300_1, mul300_0, biF]
      · refine ⟨0, ?_, by omega⟩
        unfold potB
        simp [evSs, evS, evE, evIts, evAs, evIt, Res.bind, Res.fl, Res.of, Fl.then, use, useB, item, take, slot0, slot1, slot2, slot3, slot4, slot5, slot6, slot7, nxO, store, assignTg, Fl.val, D.isTy, W.frz, callA, bindA, backA, ixF, C.d, L2.atI, L2.ixN, biF, cmpF, eqF_str, eqF_int, D.isNon, line, E.isNone, partB, Option.bind, hc, h18, pow60, pow300, pow18, mod300, mul300_1, mul300_0, biF]
  obtain ⟨a, hB, ha⟩ := hB
  have hC : evS P (callF P n) [0, 1] potC [some (.d (.scr ns)), some (.d (.int (i : Int))), some (.d (.int c)), some (.d (.int a)), none] = .nx [some (.d (.scr ns)), some (.d (.int (i : Int))), some (.d (.int c)), some (.d (.int a)), some (.d (.int (c % 2305843009213693951)))] := by
    unfold potC
    simp [evSs, evS, evE, evIts, evAs, evIt, Res.bind, Res.fl, Res.of, Fl.then, use, useB, item, take, slot0, slot1, slot2, slot3, slot4, slot5, slot6, slot7, nxO, store, assignTg, Fl.val, D.isTy, W.frz, callA, bindA, backA, ixF, C.d, L2.atI, L2.ixN, biF, cmpF, eqF_str, eqF_int, D.isNon, line, E.isNone, partB, Option.bind, binMod, biF]
  have s0 := Int.emod_nonneg c (show (2305843009213693951 : Int) ≠ 0 by decide)
  have s1 := Int.emod_lt_of_pos c (show (0 : Int) < 2305843009213693951 by decide)
  generalize c % 2305843009213693951 = s at hC s0 s1
  have hD : ∃ b, evS P (callF P n) [0, 1] (potD p3 p4 p5) [some (.d (.scr ns)), some (.d (.int (i : Int))), some (.d (.int c)), some (.d (.int a)), some (.d (.int s))] = .rt (.lst [.int a, .int b, .int 0]) [some (.d (.scr ns)), some (.d (.int (i : Int))), some (.d (.int c)), some (.d (.int a)), some (.d (.int s))] ∧ 0 ≤ b ∧ b < 2 ^ 62 := by
    have i5 : (i : Int) ≤ 5 := by omega
    have n1 : 0 ≤ p4 * (i : Int) := Int.mul_nonneg b4.1 (by omega)
    have n2 : p4 * (i : Int) ≤ 5000000 := Int.le_trans (Int.mul_le_mul b4.2 i5 (by omega) (by omega)) (by decide)
    have m1 : binF .mul (.int s) (.int p3) = some (.d (.int (s * p3))) := binMul (small_of (by omega) (by omega)) (small_of (by omega) (by omega))
    have m2 : binF .mul (.int p4) (.int (i : Int)) = some (.d (.int (p4 * (i : Int)))) := binMul (small_of (by omega) (by omega)) (small_of (by omega) (by omega))
    have m3 : binF .mul (.int (p4 * (i : Int))) (.int (i : Int)) = some (.d (.int (p4 * (i : Int) * (i : Int)))) := binMul (small_of (by omega) (by omega)) (small_of (by omega) (by omega))
    refine ⟨(s * p3 + p4 * (i : Int) * (i : Int) + p5) % 2305843009213693921, ?_, Int.emod_nonneg _ (by decide), Int.lt_of_lt_of_le (Int.emod_lt_of_pos _ (by decide)) (by decide)⟩
    unfold potD
    simp [evSs, evS, evE, evIts, evAs, evIt, Res.bind, Res.fl, Res.of, Fl.then, use, useB, item, take, slot0, slot1, slot2, slot3, slot4, slot5, slot6, slot7, nxO, store, assignTg, Fl.val, D.isTy, W.frz, callA, bindA, backA, ixF, C.d, L2.atI, L2.ixN, biF, cmpF, eqF_str, eqF_int, D.isNon, line, E.isNone, partB, Option.bind, m1, m2, m3, binAdd, binMod, biF]
  obtain ⟨b, hD, hb, hb2⟩ := hD
  refine ⟨a, b, [some (.d (.scr ns)), some (.d (.int (i : Int))), some (.d (.int c)), some (.d (.int a)), some (.d (.int s))], ?_, ha, hb, hb2⟩
  rw [call_eq lk rfl]
  show finC (evSs P (callF P n) [0, 1] (potBody p1 p2 p3 p4 p5) [some (.d (.scr ns)), some (.d (.int (i : Int))), none, none, none]) = _
  rw [pot_body, seq_nx hA, seq_nx hB, seq_nx hC, seq_rt hD, finC]
theorem evE_listRange {P : Prog} {cf : PySem.Str → List W → CRes} {keep : List Nat} {e : E} {env env' : PyEv.Env} {a : Ar} {i : Int} {xs : List D} (h : evE P cf keep e env = .ok a env') (hu : use env' a = some (.int i)) (hl : i ≤ line) (hr : rangeF 0 i = some xs) : evE P cf keep (.listRange e) env = .ok (.val (.lst xs)) env' := by
  simp only [evE, h, Res.bind, hu, hr, Res.of, if_pos hl, Option.map]
theorem pot_cells (lk : P.fns.lookup ("_law_cells" : Str) = some (⟨2, 2, [0, 1], cellsBody⟩ : Fn)) (m : Nat) (hm : 1 ≤ m) (hm6 : m ≤ 6) (n : Nat) (ns : List Int) : ∃ xs outs, callF P (n + 1) "_law_cells" [.d (.scr ns), .d (.int (m : Int))] = .ok (.lst xs) outs ∧ xs.length ≤ m ∧ ∀ x ∈ xs, ∃ i : Nat, i < m ∧ x = .int (i : Int) := by
  obtain ⟨k, hk, hk6⟩ : ∃ k : Nat, (if (if (ns.length : Int) < (m : Int) then (ns.length : Int) else (m : Int)) > 1 then (if (ns.length : Int) < (m : Int) then (ns.length : Int) else (m : Int)) else 1) = (k : Int) ∧ k ≤ m := by
    refine ⟨(if (if (ns.length : Int) < (m : Int) then (ns.length : Int) else (m : Int)) > 1 then (if (ns.length : Int) < (m : Int) then (ns.length : Int) else (m : Int)) else 1).toNat, ?_, ?_⟩ <;> (split <;> split <;> omega)
  obtain ⟨xs, hr, hl, hx⟩ := range_len (k := k) (by omega)
  refine ⟨xs, [some (.d (.scr ns)), some (.d (.int (m : Int)))], ?_, by omega, fun x hm => ?_⟩
  · rw [call_eq lk rfl]
    have e1 : evE P (callF P n) [0, 1] (.mm true (.k (.int 1)) (.mm false (.var 1) (.bi .len (.var 0)))) [some (.d (.scr ns)), some (.d (.int (m : Int)))] = .ok (.val (.d (.int (k : Int)))) [some (.d (.scr ns)), some (.d (.int (m : Int)))] := by
      rw [← hk]
      simp [evSs, evS, evE, evIts, evAs, evIt, Res.bind, Res.fl, Res.of, Fl.then, use, useB, item, take, slot0, slot1, slot2, slot3, slot4, slot5, slot6, slot7, nxO, store, assignTg, Fl.val, D.isTy, W.frz, callA, bindA, backA, ixF, C.d, L2.atI, L2.ixN, binF, biF, cmpF, eqF_str, eqF_int, D.isNon, line, E.isNone, partB, Option.bind, biF]
    have e2 : evE P (callF P n) [0, 1] (.listRange (.mm true (.k (.int 1)) (.mm false (.var 1) (.bi .len (.var 0))))) [some (.d (.scr ns)), some (.d (.int (m : Int)))] = .ok (.val (.lst xs)) [some (.d (.scr ns)), some (.d (.int (m : Int)))] := by
      exact evE_listRange e1 rfl (by unfold line; omega) hr
    have e3 : evS P (callF P n) [0, 1] (.ret (.listRange (.mm true (.k (.int 1)) (.mm false (.var 1) (.bi .len (.var 0)))))) [some (.d (.scr ns)), some (.d (.int (m : Int)))] = .rt (.lst xs) [some (.d (.scr ns)), some (.d (.int (m : Int)))] := by
      rw [evS, e2]
      simp only [Res.fl, take]
    show finC (evSs P (callF P n) [0, 1] cellsBody [some (.d (.scr ns)), some (.d (.int (m : Int)))]) = _
    unfold cellsBody
    rw [seq_rt e3, finC]
  · subst hx
    obtain ⟨i, hi, rfl⟩ := List.mem_map.mp hm
    exact ⟨i, by have := List.mem_range.mp hi; omega, rfl⟩
theorem all_trues {α : Type} (l : List α) : allBl (l.map fun _ => D.bl true) = some (l.map fun _ => true) := by
  induction l with
  | nil => rfl
  | cons c l ih => simp only [List.map_cons, allBl, ih]; rfl
theorem pot_main {p1 p2 p3 p4 p5 : Int} {k : Nat} (lp : P.fns.lookup ("_law_pot" : Str) = some (⟨2, 5, [0, 1], potBody p1 p2 p3 p4 p5⟩ : Fn)) (b1 : 0 ≤ p1 ∧ p1 ≤ 1000000) (b2 : 0 ≤ p2 ∧ p2 ≤ 1000000) (b3 : 0 ≤ p3 ∧ p3 ≤ 1000000) (b4 : 0 ≤ p4 ∧ p4 ≤ 1000000) (b5 : 0 ≤ p5 ∧ p5 ≤ 1000000)
    (lc : P.fns.lookup ("_law_cells" : Str) = some (⟨2, 2, [0, 1], cellsBody⟩ : Fn)) (m : Nat) (hm : 1 ≤ m) (hm6 : m ≤ 6) (ll : P.fns.lookup ("law" : Str) = some (⟨1, 2, [0], lawBody m⟩ : Fn)) {fr : Fn} (lr : P.fns.lookup ("_law_right" : Str) = some fr) (hk : fr.keep = [0])
    (H : ∀ w, PotR 900000 w → Ret P (k + 1) "_law_right" [w] (.d (.bl true))) : ∀ ns : List Int, ns.length ≤ 63 → ∃ outs, callF P (k + 2) "law" [.d (.scr ns)] = .ok (.d (.bl true)) outs := by
  intro ns hns
  obtain ⟨xs, oc, ec, hlen, hxs⟩ := pot_cells lc m hm hm6 k ns
  obtain ⟨env', e, o', rfl⟩ := lcL_map (keep := [0]) (tg := .one 1) (own := [("_law_place", 1)]) (ct := fun env => .ok true env) (ce := fun env => (evE P (callF P (k + 1)) [0] (.call "_law_right" (.cons (.call "_law_pot" (.cons (.var 0) (.cons (.var 1) .nil))) .nil)) env).bind item) (fun _ => .bl true) (fun env => ∃ o, env = [some (.d (.scr ns)), o])
    xs [] [some (.d (.scr ns)), none] (by
      rintro x hx env ⟨o, rfl⟩
      obtain ⟨i, hi, rfl⟩ := hxs x hx
      obtain ⟨a, b, o1, e1, ha, hb, hb2⟩ := pot_pot lp b1 b2 b3 b4 b5 k ns i (by omega)
      obtain ⟨o2, e2⟩ := H (.lst [.int a, .int b, .int 0]) ⟨a, b, 0, rfl, ha, hb, hb2, by omega, by omega⟩
      refine ⟨[some (.d (.scr ns)), some (.d (.int (i : Int)))], _, [some (.d (.scr ns)), some (.d (.int (i : Int)))], ?_, rfl, ?_, _, rfl⟩
      · simp [evSs, evS, evE, evIts, evAs, evIt, Res.bind, Res.fl, Res.of, Fl.then, use, useB, item, take, slot0, slot1, slot2, slot3, slot4, slot5, slot6, slot7, nxO, store, assignTg, Fl.val, D.isTy, W.frz, callA, bindA, backA, ixF, C.d, L2.atI, L2.ixN, binF, biF, cmpF, eqF_str, eqF_int, D.isNon, line, E.isNone, partB, Option.bind, wipeE]
      · simp [evSs, evS, evE, evIts, evAs, evIt, Res.bind, Res.fl, Res.of, Fl.then, use, useB, item, take, slot0, slot1, slot2, slot3, slot4, slot5, slot6, slot7, nxO, store, assignTg, Fl.val, D.isTy, W.frz, callA, bindA, backA, ixF, C.d, L2.atI, L2.ixN, binF, biF, cmpF, eqF_str, eqF_int, D.isNon, line, E.isNone, partB, Option.bind, lr, lp, hk, e1, e2]) ⟨none, rfl⟩ (by simp [line]; omega)
  simp only [List.nil_append] at e
  have hc : evIt P (callF P (k + 1)) [0] (.seq (.call "_law_cells" (.cons (.var 0) (.cons (.k (.int (m : Int))) .nil)))) [some (.d (.scr ns)), none] = .ok xs [some (.d (.scr ns)), none] := by
    simp [evSs, evS, evE, evIts, evAs, evIt, Res.bind, Res.fl, Res.of, Fl.then, use, useB, item, take, slot0, slot1, slot2, slot3, slot4, slot5, slot6, slot7, nxO, store, assignTg, Fl.val, D.isTy, W.frz, callA, bindA, backA, ixF, C.d, L2.atI, L2.ixN, binF, biF, cmpF, eqF_str, eqF_int, D.isNon, line, E.isNone, partB, Option.bind, itemsF, lc, ec]
  have hlc : evE P (callF P (k + 1)) [0] (lawLc m) [some (.d (.scr ns)), none] = .ok (.val (.lst (xs.map fun _ => D.bl true))) (wipeE [some (.d (.scr ns)), o'] [("_law_place", 1)]) := by
    simp only [lawLc, evE, hc, Res.bind, E.isNone]
    simp only [if_true]
    erw [e]
  refine ret_of ll rfl ?_
  show (evSs P (callF P (k + 1)) [0] (lawBody m) [some (.d (.scr ns)), none]).val = _
  unfold lawBody
  simp [evSs, evS, evE, evIts, evAs, evIt, Res.bind, Res.fl, Res.of, Fl.then, use, useB, item, take, slot0, slot1, slot2, slot3, slot4, slot5, slot6, slot7, nxO, store, assignTg, Fl.val, D.isTy, W.frz, callA, bindA, backA, ixF, C.d, L2.atI, L2.ixN, binF, biF, cmpF, eqF_str, eqF_int, D.isNon, line, E.isNone, partB, Option.bind, hlc, all_trues, biF]
end
end PyEv

set_option maxRecDepth 100000
/-! PySv: equations by which simp runs the evaluator. -/
namespace PyEv
open PySem (Str PyData)
section
variable {P : Prog} {cf : Str → List W → CRes} {keep : List Nat} {env : Env} {i j : Nat} {w : W}
theorem slot_z {o : Option W} {e : Env} : slot (o :: e) 0 = o := rfl
theorem slot_s {o : Option W} {e : Env} {i : Nat} : slot (o :: e) (i + 1) = slot e i := by unfold slot; simp
theorem xdd {ks : List Str} {vs : List D} {a : Str} : ixF (.dct ks vs) (.str a) = (ks.zip vs).lookup a := rfl
theorem lit_line {n : Nat} (h : n ≤ 1000) : n ≤ line := by unfold line; omega
theorem cast0 : ((0 : Nat) : Int) = 0 := rfl
theorem cast1 : ((1 : Nat) : Int) = 1 := rfl
theorem cast2 : ((2 : Nat) : Int) = 2 := rfl
theorem cast3 : ((3 : Nat) : Int) = 3 := rfl
theorem cast4 : ((4 : Nat) : Int) = 4 := rfl
theorem cast5 : ((5 : Nat) : Int) = 5 := rfl
theorem cast6 : ((6 : Nat) : Int) = 6 := rfl
theorem cast7 : ((7 : Nat) : Int) = 7 := rfl
theorem cast8 : ((8 : Nat) : Int) = 8 := rfl
theorem cast9 : ((9 : Nat) : Int) = 9 := rfl
theorem xtt {xs : List D} {m : Int} : ixF (.tup xs) (.int m) = L2.atI xs m := rfl
theorem xll {xs : List D} {m : Int} : ixF (.lst xs) (.int m) = L2.atI xs m := rfl
theorem isN_eq {x : D} : cmpF .isN x .non = some x.isNon := rfl
theorem notN_eq {x : D} : cmpF .notN x .non = some (!x.isNon) := rfl
theorem nin_eq {x y : D} : cmpF .notin x y = (isinF x y).map (!·) := rfl
theorem in_eq {x y : D} : cmpF .isin x y = isinF x y := rfl
theorem eq_eq2 {x y : D} : cmpF .eq x y = eqF x y := rfl
theorem ne_eq2 {x y : D} : cmpF .ne x y = (eqF x y).map (!·) := rfl
theorem eqF_s {a b : Str} : eqF (.str a) (.str b) = some (decide (a = b)) := rfl
theorem eqF_i {a b : Int} : eqF (.int a) (.int b) = some (decide (a = b)) := rfl
theorem stor : store keep i w env = if keep.contains i = true ∨ env.length ≤ i then none else some (env.set i (some w)) := rfl
theorem bkn {outs : Env} : backA outs env [] = env := rfl
theorem bkc {outs : Env} {l : List (Nat × Nat)} : backA outs env ((i, j) :: l) = (backA outs env l).set i (slot outs j) := rfl
theorem b_repr2 {x : D} : biF .repr x = (reprF x).map .d := rfl
theorem b_all2 {xs : List D} : biF .all (.lst xs) = (allBl xs).map fun bs => .d (.bl (bs.all id)) := rfl
theorem b_any2 {xs : List D} : biF .any (.lst xs) = (allBl xs).map fun bs => .d (.bl (bs.any id)) := rfl
theorem ty_1 {s : Str} : D.isTy .str (.str s) = some true := rfl
theorem ty_2 {xs : List D} : D.isTy .str (.tup xs) = some false := rfl
theorem ty_3 {xs : List D} : D.isTy .str (.lst xs) = some false := rfl
theorem ty_4 : D.isTy .str .non = some false := rfl
theorem ty_5 {i : Int} : D.isTy .str (.int i) = some false := rfl
theorem ty_6 {b : Bool} : D.isTy .str (.bl b) = some false := rfl
theorem ty_7 {ks : List Str} {vs : List D} : D.isTy .str (.dct ks vs) = some false := rfl
theorem ty_8 {s : Str} : D.isTy .tuple (.str s) = some false := rfl
theorem ty_9 {xs : List D} : D.isTy .tuple (.tup xs) = some true := rfl
theorem ty_10 {xs : List D} : D.isTy .tuple (.lst xs) = some false := rfl
theorem ty_11 : D.isTy .tuple .non = some false := rfl
theorem ty_12 {i : Int} : D.isTy .tuple (.int i) = some false := rfl
theorem ty_13 {b : Bool} : D.isTy .tuple (.bl b) = some false := rfl
theorem ty_14 {ks : List Str} {vs : List D} : D.isTy .tuple (.dct ks vs) = some false := rfl
theorem ty_15 {s : Str} : D.isTy .int (.str s) = some false := rfl
theorem ty_16 {xs : List D} : D.isTy .int (.tup xs) = some false := rfl
theorem ty_17 {xs : List D} : D.isTy .int (.lst xs) = some false := rfl
theorem ty_18 : D.isTy .int .non = some false := rfl
theorem ty_19 {i : Int} : D.isTy .int (.int i) = some true := rfl
theorem ty_20 {b : Bool} : D.isTy .int (.bl b) = some true := rfl
theorem ty_21 {ks : List Str} {vs : List D} : D.isTy .int (.dct ks vs) = some false := rfl
theorem ty_22 {s : Str} : D.isTy .bool (.str s) = some false := rfl
theorem ty_23 {xs : List D} : D.isTy .bool (.tup xs) = some false := rfl
theorem ty_24 {xs : List D} : D.isTy .bool (.lst xs) = some false := rfl
theorem ty_25 : D.isTy .bool .non = some false := rfl
theorem ty_26 {i : Int} : D.isTy .bool (.int i) = some false := rfl
theorem ty_27 {b : Bool} : D.isTy .bool (.bl b) = some true := rfl
theorem ty_28 {ks : List Str} {vs : List D} : D.isTy .bool (.dct ks vs) = some false := rfl
end
class Has (P : Prog) (f : Str) (fn : outParam Fn) : Prop where
  lk : P.fns.lookup f = some fn
class Con (P : Prog) (c : Str) (d : outParam D) : Prop where
  gl : P.consts.lookup c = some d
class Exn (P : Prog) (c : Str) : Prop where
  ex : P.excs.contains c = true
class Hrs (P : Prog) (c : Str) : Prop where
  hr : P.hears.contains c = true
end PyEv

set_option maxRecDepth 100000
set_option maxHeartbeats 4000000
/-! PyRdA: the functions of readings.py on any data, in any program that has them. -/
namespace PyEv
open PySem
/-! ### texts -/
def tx (l : List Nat) : Str := ⟨l.toArray⟩
theorem tx_app (a b : List Nat) : tx a ++ tx b = tx (a ++ b) := by
  show (⟨a.toArray ++ b.toArray⟩ : Str) = ⟨(a ++ b).toArray⟩
  simp
@[simp] theorem tx_len (a : List Nat) : (tx a).length = a.length := by simp [tx, Str.length]
@[simp] theorem tx_cps (a : List Nat) : (tx a).cps.toList = a := rfl
theorem tx_of (s : Str) : s = tx s.cps.toList := rfl
theorem tx_inj {a b : List Nat} : (tx a = tx b) = (a = b) := by
  apply propext
  constructor
  · intro h
    have : (tx a).cps.toList = (tx b).cps.toList := by rw [h]
    exact this
  · intro h; rw [h]
theorem str_len (s : Str) : s.length = s.cps.toList.length := by simp [Str.length]
/-! ### signs -/
def letB (c : Nat) : Bool := decide (97 ≤ c) && decide (c ≤ 122)
theorem letB_iff {c : Nat} : letB c = true ↔ 97 ≤ c ∧ c ≤ 122 := by simp [letB]
abbrev letters : Str := "abcdefghijklmnopqrstuvwxyz"
theorem in_low : ∀ c, c < 128 → (!(PySem.Builtin.Str.occurrences letters ⟨#[c]⟩ 0 letters.length 1).isEmpty) = letB c := by
  have h : (List.range 128).all (fun c => (!(PySem.Builtin.Str.occurrences letters ⟨#[c]⟩ 0 letters.length 1).isEmpty) == letB c) = true := by decide +kernel
  intro c hc
  exact beq_iff_eq.mp (List.all_eq_true.mp h c (List.mem_range.mpr hc))
theorem in_high {z : Str} (hz : ∀ d ∈ z.cps, d < 128) {c : Nat} (hc : 128 ≤ c) : (!(PySem.Builtin.Str.occurrences z ⟨#[c]⟩ 0 z.length 1).isEmpty) = false := by
  rw [PySem.W.occ_nil_of_no z ⟨#[c]⟩ 1 fun i hi => ?_]
  · rfl
  · cases e : PySem.Builtin.Str.subAt z ⟨#[c]⟩ i with
    | false => rfl
    | true =>
      have h2 : z.cps.extract i (i + 1) = #[c] := beq_iff_eq.mp e
      have h3 : c ∈ z.cps.extract i (i + 1) := by rw [h2]; simp
      obtain ⟨k, hk, hk2⟩ := Array.mem_extract_iff_getElem.mp h3
      have := hz c (hk2 ▸ Array.getElem_mem _)
      omega
theorem in_all (c : Nat) : (!(PySem.Builtin.Str.occurrences letters ⟨#[c]⟩ 0 letters.length 1).isEmpty) = letB c := by
  by_cases hc : c < 128
  · exact in_low c hc
  · rw [in_high (z := letters) (by decide +kernel) (by omega)]
    symm
    simp [letB]; omega
theorem isin_sign (c : Nat) : isinF (.str ⟨#[c]⟩) (.str "abcdefghijklmnopqrstuvwxyz") = some (letB c) := by
  show some _ = _
  rw [← in_all c]
/-! ### what is plain -/
mutual
def Pd : D → Bool
  | .str s => decide (s.length ≤ 1000000)
  | .tup xs => decide (xs.length ≤ 1000000) && Pds xs
  | .lst xs => decide (xs.length ≤ 1000000) && Pds xs
  | .dct ks vs => decide (vs.length ≤ 1000000) && Pds vs
  | .non => true
  | .bl _ => true
  | .int _ => true
  | .scr _ => false
  | .ins .. => false
  | .exc .. => false
def Pds : List D → Bool
  | [] => true
  | x :: xs => Pd x && Pds xs
end
mutual
def dep : D → Nat
  | .tup xs => deps xs + 1
  | .lst xs => deps xs + 1
  | .dct _ vs => deps vs + 1
  | _ => 0
def deps : List D → Nat
  | [] => 0
  | x :: xs => max (dep x) (deps xs)
end
theorem Pds_all : ∀ {xs : List D}, Pds xs = true ↔ ∀ x ∈ xs, Pd x = true
  | [] => by simp [Pds]
  | x :: xs => by simp [Pds, Pds_all (xs := xs)]
theorem deps_le {m : Nat} : ∀ {xs : List D}, deps xs ≤ m ↔ ∀ x ∈ xs, dep x ≤ m
  | [] => by simp [deps]
  | x :: xs => by simp [deps, Nat.max_le, deps_le (xs := xs)]
theorem Pd_tup {xs : List D} (h : Pd (.tup xs) = true) : xs.length ≤ 1000000 ∧ ∀ x ∈ xs, Pd x = true := by
  simp only [Pd, Bool.and_eq_true, decide_eq_true_eq] at h
  exact ⟨h.1, Pds_all.mp h.2⟩
theorem Pd_str {s : Str} (h : Pd (.str s) = true) : s.length ≤ 1000000 := by simpa [Pd] using h
theorem Pd_ty {x : D} (h : Pd x = true) (t : Ty) : ∃ b, D.isTy t x = some b := by
  cases x <;> first | (simp [Pd] at h; done) | (cases t <;> exact ⟨_, rfl⟩)
theorem allBl_map {α : Type} (f : α → Bool) : ∀ l : List α, allBl (l.map fun x => D.bl (f x)) = some (l.map f)
  | [] => rfl
  | x :: l => by simp [allBl, allBl_map f l]
/-! ### trees -/
inductive Tr where
  | leaf (s : Str) | node (r : Bool) (a b : Tr)
  deriving DecidableEq
abbrev side (r : Bool) : Str := if r then "right" else "left"
def Tr.D : Tr → D
  | .leaf s => .str s
  | .node r a b => .tup [.str (side r), a.D, b.D]
def Tr.ends : Tr → List Str
  | .leaf s => [s]
  | .node _ a b => a.ends ++ b.ends
def Tr.depth : Tr → Nat
  | .leaf _ => 0
  | .node _ a b => max a.depth b.depth + 1
def nmB (cs : List Nat) : Bool := decide (1 ≤ cs.length) && (decide (cs.length ≤ 8) && cs.all letB)
def nameS (s : Str) : Bool := nmB s.cps.toList
def Tr.named (t : Tr) : Prop := ∀ s ∈ t.ends, nameS s = true
theorem named_leaf {s : Str} (h : (Tr.leaf s).named) : nameS s = true := h s List.mem_cons_self
theorem named_node {r : Bool} {a b : Tr} : (Tr.node r a b).named ↔ a.named ∧ b.named :=
  ⟨fun h => ⟨fun s hs => h s (List.mem_append_left _ hs), fun s hs => h s (List.mem_append_right _ hs)⟩, fun h s hs => (List.mem_append.mp hs).elim (h.1 s) (h.2 s)⟩
theorem depth_lt : ∀ (t : Tr), t.depth < t.ends.length
  | .leaf _ => Nat.lt_succ_self 0
  | .node _ a b => by
    have := depth_lt a; have := depth_lt b
    simp only [Tr.depth, Tr.ends, List.length_append]; omega
theorem ends_pow : ∀ (t : Tr), t.ends.length ≤ 2 ^ t.depth
  | .leaf _ => by simp [Tr.ends, Tr.depth]
  | .node _ a b => by
    have h1 := ends_pow a
    have h2 := ends_pow b
    have h3 : 2 ^ a.depth ≤ 2 ^ max a.depth b.depth := Nat.pow_le_pow_right (by decide) (Nat.le_max_left _ _)
    have h4 : 2 ^ b.depth ≤ 2 ^ max a.depth b.depth := Nat.pow_le_pow_right (by decide) (Nat.le_max_right _ _)
    simp only [Tr.ends, Tr.depth, List.length_append, Nat.pow_succ]; omega
theorem D_dep : ∀ t : Tr, dep t.D = t.depth
  | .leaf _ => rfl
  | .node r a b => by simp [Tr.D, Tr.depth, dep, deps, D_dep a, D_dep b]
theorem isNon_D : ∀ t : Tr, t.D.isNon = false
  | .leaf _ => rfl
  | .node .. => rfl
theorem side_inj {r q : Bool} (h : side r = side q) : r = q := by cases r <;> cases q <;> first | rfl | (exact absurd h (by decide))
theorem D_inj : ∀ {t u : Tr}, t.D = u.D → t = u
  | .leaf s, .leaf z, h => by simp only [Tr.D, D.str.injEq] at h; rw [h]
  | .leaf s, .node .., h => by simp [Tr.D] at h
  | .node .., .leaf z, h => by simp [Tr.D] at h
  | .node r a b, .node q c d, h => by
    simp only [Tr.D, D.tup.injEq, List.cons.injEq, D.str.injEq, and_true] at h
    rw [side_inj h.1, D_inj h.2.1, D_inj h.2.2]
/-- a side and two parts -/
def threeOf : D → Option (Bool × D × D)
  | .tup [.str r, a, b] => if r = "right" then some (true, a, b) else if r = "left" then some (false, a, b) else none
  | _ => none
def toTr : D → Option Tr
  | .str s => if nameS s = true then some (.leaf s) else none
  | .tup [.str r, a, b] => if r = "right" then (match toTr a, toTr b with | some x, some y => some (.node true x y) | _, _ => none) else if r = "left" then (match toTr a, toTr b with | some x, some y => some (.node false x y) | _, _ => none) else none
  | _ => none
termination_by d => sizeOf d
decreasing_by all_goals (simp_wf; try omega)
theorem three_some {x a b : D} {r : Bool} (h : threeOf x = some (r, a, b)) : x = .tup [.str (side r), a, b] := by
  unfold threeOf at h
  split at h
  · split at h
    · rename_i e; cases h; rw [e]; rfl
    · split at h
      · rename_i e; cases h; rw [e]; rfl
      · cases h
  · cases h
theorem three_side {r : Bool} {a b : D} : threeOf (.tup [.str (side r), a, b]) = some (r, a, b) := by cases r <;> rfl
theorem toTr_eq (x : D) : toTr x = match x with
    | .str s => if nameS s = true then some (.leaf s) else none
    | x => match threeOf x with
      | some (r, a, b) => (match toTr a, toTr b with | some x, some y => some (.node r x y) | _, _ => none)
      | none => none := by
  rw [toTr.eq_def]
  split
  · rfl
  · rename_i r a b
    simp only [threeOf]
    split
    · rfl
    · split <;> rfl
  · rename_i h1 h2
    split
    · rename_i s; exact (h1 s rfl).elim
    · have : threeOf x = none := by
        unfold threeOf
        split
        · exact (h2 _ _ _ rfl).elim
        · rfl
      rw [this]
theorem toTr_some : ∀ {x : D} {t : Tr}, toTr x = some t → x = t.D ∧ t.named := by
  intro x
  induction hn : sizeOf x using Nat.strongRecOn generalizing x with
  | ind n ih =>
    intro t h
    rw [toTr_eq] at h
    split at h
    · split at h
      · rename_i s e
        cases h
        exact ⟨rfl, fun z hz => by rcases List.mem_singleton.mp hz with rfl; exact e⟩
      · cases h
    · split at h
      · rename_i r a b e
        have ex := three_some e
        split at h
        · rename_i u v hu hv
          cases h
          subst ex
          simp at hn
          obtain ⟨e1, n1⟩ := ih (sizeOf a) (by omega) rfl hu
          obtain ⟨e2, n2⟩ := ih (sizeOf b) (by omega) rfl hv
          exact ⟨by rw [Tr.D, ← e1, ← e2], named_node.mpr ⟨n1, n2⟩⟩
        · cases h
      · cases h
theorem toTr_D : ∀ {t : Tr}, t.named → toTr t.D = some t
  | .leaf s, h => by rw [toTr_eq]; simp only [Tr.D]; rw [if_pos (named_leaf h)]
  | .node r a b, h => by
    obtain ⟨h1, h2⟩ := named_node.mp h
    rw [toTr_eq]
    simp only [Tr.D]
    rw [three_side]
    simp only [toTr_D h1, toTr_D h2]
def isNameD : D → Bool
  | .str s => nameS s
  | _ => false
def isReadD (x : D) : Bool := match toTr x with
  | some t => decide (t.ends.length ≤ 6)
  | none => false
def isRowD : D → Bool
  | .tup xs => decide (1 ≤ xs.length) && (decide (xs.length ≤ 5) && xs.all isNameD)
  | _ => false
end PyEv

set_option maxRecDepth 100000
set_option maxHeartbeats 4000000
/-! PyRdB: what they give. -/
namespace Rd
open PyEv PySem
def lc_is_name_0 : E := (.lc (.cmp .isin (.var 1) (.glob "LETTERS")) (.one 1) (.seq (.var 0)) .none [("sign", 1)])
/-- is_name -/
def b_is_name : Ss := (.cons (.ret (.and (.isi (.var 0) .str) (.and (.chain .le .le (.k (.int 1)) (.bi .len (.var 0)) (.glob "LONGEST_NAME")) (.bi .all lc_is_name_0)))) .nil)
def f_is_name : Fn := ⟨1, 2, [0], b_is_name⟩
/-- is_integer -/
def b_is_integer : Ss := (.cons (.ret (.and (.isi (.var 0) .int) (.and (.not (.isi (.var 0) .bool)) (.chain .le .le (.var 1) (.var 0) (.var 2))))) .nil)
def f_is_integer : Fn := ⟨3, 3, [0, 1, 2], b_is_integer⟩
/-- is_threefold -/
def b_is_threefold : Ss := (.cons (.ret (.and (.isi (.var 0) .tuple) (.and (.cmp .eq (.bi .len (.var 0)) (.k (.int 3))) (.and (.isi (.ix (.var 0) (.k (.int 0))) .str) (.cmp .isin (.ix (.var 0) (.k (.int 0))) (.glob "OTHER_SIDE")))))) .nil)
def f_is_threefold : Fn := ⟨1, 1, [0], b_is_threefold⟩
/-- is_tree -/
def b_is_tree : Ss := (.cons (.ret (.or (.call "is_name" (.cons (.var 0) .nil)) (.and (.call "is_threefold" (.cons (.var 0) .nil)) (.and (.call "is_tree" (.cons (.ix (.var 0) (.k (.int 1))) .nil)) (.call "is_tree" (.cons (.ix (.var 0) (.k (.int 2))) .nil)))))) .nil)
def f_is_tree : Fn := ⟨1, 1, [0], b_is_tree⟩
/-- ends_of -/
def b_ends_of : Ss := (.cons (.ife (.isi (.var 0) .str) (.cons (.ret (.lst (.cons (.var 0) .nil))) .nil) .nil) (.cons (.ret (.bin .add (.call "ends_of" (.cons (.ix (.var 0) (.k (.int 1))) .nil)) (.call "ends_of" (.cons (.ix (.var 0) (.k (.int 2))) .nil)))) .nil))
def f_ends_of : Fn := ⟨1, 1, [0], b_ends_of⟩
/-- is_reading -/
def b_is_reading : Ss := (.cons (.ret (.and (.call "is_tree" (.cons (.var 0) .nil)) (.cmp .le (.bi .len (.call "ends_of" (.cons (.var 0) .nil))) (.glob "MOST_ENDS")))) .nil)
def f_is_reading : Fn := ⟨1, 1, [0], b_is_reading⟩
def lc_is_reading_of_0 : E := (.lc (.cmp .isin (.var 2) (.var 0)) (.one 2) (.seq (.call "ends_of" (.cons (.var 1) .nil))) .none [("word", 2)])
/-- is_reading_of -/
def b_is_reading_of : Ss := (.cons (.ret (.and (.call "is_reading" (.cons (.var 1) .nil)) (.bi .all lc_is_reading_of_0))) .nil)
def f_is_reading_of : Fn := ⟨2, 3, [0, 1], b_is_reading_of⟩
def lc_is_row_0 : E := (.lc (.call "is_name" (.cons (.var 1) .nil)) (.one 1) (.seq (.var 0)) .none [("word", 1)])
/-- is_row -/
def b_is_row : Ss := (.cons (.ret (.and (.isi (.var 0) .tuple) (.and (.chain .le .le (.k (.int 1)) (.bi .len (.var 0)) (.glob "MOST_IN_ROW")) (.bi .all lc_is_row_0)))) .nil)
def f_is_row : Fn := ⟨1, 2, [0], b_is_row⟩
def lc_is_row_of_0 : E := (.lc (.cmp .isin (.var 2) (.var 0)) (.one 2) (.seq (.var 1)) .none [("word", 2)])
/-- is_row_of -/
def b_is_row_of : Ss := (.cons (.ret (.and (.call "is_row" (.cons (.var 1) .nil)) (.bi .all lc_is_row_of_0))) .nil)
def f_is_row_of : Fn := ⟨2, 3, [0, 1], b_is_row_of⟩
/-- check_reading -/
def b_check_reading : Ss := (.cons (.ife (.not (.call "is_reading" (.cons (.var 0) .nil))) (.cons (.raise "BadReading" (.var 0)) .nil) .nil) .nil)
def f_check_reading : Fn := ⟨1, 1, [0], b_check_reading⟩
/-- spelled -/
def b_spelled : Ss := (.cons (.ife (.isi (.var 0) .str) (.cons (.ret (.var 0)) .nil) .nil) (.cons (.unp (.two 1 2) (.ix (.glob "BRACKETS") (.ix (.var 0) (.k (.int 0))))) (.cons (.ret (.bin .add (.bin .add (.bin .add (.bin .add (.var 1) (.call "spelled" (.cons (.ix (.var 0) (.k (.int 1))) .nil))) (.glob "BLANK")) (.call "spelled" (.cons (.ix (.var 0) (.k (.int 2))) .nil))) (.var 2))) .nil)))
def f_spelled : Fn := ⟨1, 3, [0], b_spelled⟩
/-- text_of -/
def b_text_of : Ss := (.cons (.expr (.call "check_reading" (.cons (.var 0) .nil))) (.cons (.ret (.call "spelled" (.cons (.var 0) .nil))) .nil))
def f_text_of : Fn := ⟨1, 1, [0], b_text_of⟩
def whl_read_name_0 : S := (.whl (.and (.cmp .lt (.var 2) (.bi .len (.var 0))) (.cmp .isin (.ix (.var 0) (.var 2)) (.glob "LETTERS"))) (.cons (.set 2 (.bin .add (.var 2) (.k (.int 1)))) .nil))
/-- read_name -/
def b_read_name : Ss := (.cons (.set 2 (.var 1)) (.cons whl_read_name_0 (.cons (.ret (.ifx (.call "is_name" (.cons (.slc (.var 0) (.var 1) (.var 2)) .nil)) (.tup (.cons (.slc (.var 0) (.var 1) (.var 2)) (.cons (.var 2) .nil))) (.tup (.cons (.k .non) (.cons (.var 1) .nil))))) .nil)))
def f_read_name : Fn := ⟨2, 3, [0, 1], b_read_name⟩
/-- read_tree -/
def b_read_tree : Ss := (.cons (.set 3 (.slc (.var 0) (.var 1) (.bin .add (.var 1) (.k (.int 1))))) (.cons (.ife (.cmp .notin (.var 3) (.glob "OPENED")) (.cons (.ret (.call "read_name" (.cons (.var 0) (.cons (.var 1) .nil)))) .nil) .nil) (.cons (.ife (.cmp .eq (.var 2) (.glob "MOST_ENDS")) (.cons (.ret (.tup (.cons (.k .non) (.cons (.var 1) .nil)))) .nil) .nil) (.cons (.set 4 (.ix (.glob "OPENED") (.var 3))) (.cons (.unp (.two 5 6) (.call "read_tree" (.cons (.var 0) (.cons (.bin .add (.var 1) (.k (.int 1))) (.cons (.bin .add (.var 2) (.k (.int 1))) .nil))))) (.cons (.ife (.or (.cmp .isN (.var 5) (.k .non)) (.cmp .ne (.slc (.var 0) (.var 6) (.bin .add (.var 6) (.k (.int 1)))) (.glob "BLANK"))) (.cons (.ret (.tup (.cons (.k .non) (.cons (.var 1) .nil)))) .nil) .nil) (.cons (.unp (.two 7 6) (.call "read_tree" (.cons (.var 0) (.cons (.bin .add (.var 6) (.k (.int 1))) (.cons (.bin .add (.var 2) (.k (.int 1))) .nil))))) (.cons (.ife (.or (.cmp .isN (.var 7) (.k .non)) (.cmp .ne (.slc (.var 0) (.var 6) (.bin .add (.var 6) (.k (.int 1)))) (.ix (.ix (.glob "BRACKETS") (.var 4)) (.k (.int 1))))) (.cons (.ret (.tup (.cons (.k .non) (.cons (.var 1) .nil)))) .nil) .nil) (.cons (.ret (.tup (.cons (.tup (.cons (.var 4) (.cons (.var 5) (.cons (.var 7) .nil)))) (.cons (.bin .add (.var 6) (.k (.int 1))) .nil)))) .nil)))))))))
def f_read_tree : Fn := ⟨3, 8, [0, 1, 2], b_read_tree⟩
/-- reading_in -/
def b_reading_in : Ss := (.cons (.unp (.two 1 2) (.call "read_tree" (.cons (.var 0) (.cons (.k (.int 0)) (.cons (.k (.int 0)) .nil))))) (.cons (.ret (.ifx (.and (.cmp .eq (.var 2) (.bi .len (.var 0))) (.call "is_reading" (.cons (.var 1) .nil))) (.var 1) (.k .non))) .nil))
def f_reading_in : Fn := ⟨1, 3, [0], b_reading_in⟩
/-- reading_of -/
def b_reading_of : Ss := (.cons (.set 1 (.ifx (.isi (.var 0) .str) (.call "reading_in" (.cons (.var 0) .nil)) (.k .non))) (.cons (.ife (.cmp .isN (.var 1) (.k .non)) (.cons (.raise "BadText" (.var 0)) .nil) .nil) (.cons (.ret (.var 1)) .nil)))
def f_reading_of : Fn := ⟨1, 2, [0], b_reading_of⟩
/-- row_of -/
def b_row_of : Ss := (.cons (.expr (.call "check_reading" (.cons (.var 0) .nil))) (.cons (.ret (.bi .tuple (.call "ends_of" (.cons (.var 0) .nil)))) .nil))
def f_row_of : Fn := ⟨1, 1, [0], b_row_of⟩
/-- parts_in -/
def b_parts_in : Ss := (.cons (.ret (.ifx (.isi (.var 0) .str) (.lst (.cons (.var 0) .nil)) (.lst (.cons (.var 0) (.star (.call "parts_in" (.cons (.ix (.var 0) (.k (.int 1))) .nil)) (.star (.call "parts_in" (.cons (.ix (.var 0) (.k (.int 2))) .nil)) .nil)))))) .nil)
def f_parts_in : Fn := ⟨1, 1, [0], b_parts_in⟩
/-- parts -/
def b_parts : Ss := (.cons (.expr (.call "check_reading" (.cons (.var 0) .nil))) (.cons (.ret (.bi .tuple (.call "parts_in" (.cons (.var 0) .nil)))) .nil))
def f_parts : Fn := ⟨1, 1, [0], b_parts⟩
/-- turned -/
def b_turned : Ss := (.cons (.ife (.isi (.var 0) .str) (.cons (.ret (.var 0)) .nil) .nil) (.cons (.ret (.tup (.cons (.ix (.glob "OTHER_SIDE") (.ix (.var 0) (.k (.int 0)))) (.cons (.call "turned" (.cons (.ix (.var 0) (.k (.int 2))) .nil)) (.cons (.call "turned" (.cons (.ix (.var 0) (.k (.int 1))) .nil)) .nil))))) .nil))
def f_turned : Fn := ⟨1, 1, [0], b_turned⟩
/-- mirrored -/
def b_mirrored : Ss := (.cons (.expr (.call "check_reading" (.cons (.var 0) .nil))) (.cons (.ret (.call "turned" (.cons (.var 0) .nil))) .nil))
def f_mirrored : Fn := ⟨1, 1, [0], b_mirrored⟩
def for_trees_over_0 : S := (.for (.one 5) (.seq (.var 3)) (.cons (.expr (.mut .extend 1 (.cons (.lst (.cons (.tup (.cons (.glob "RIGHT") (.cons (.var 4) (.cons (.var 5) .nil)))) (.cons (.tup (.cons (.glob "LEFT") (.cons (.var 4) (.cons (.var 5) .nil)))) .nil))) .nil))) .nil))
def for_trees_over_1 : S := (.for (.one 4) (.seq (.call "trees_over" (.cons (.slc (.var 0) .none (.var 2)) .nil))) (.cons for_trees_over_0 .nil))
def for_trees_over_2 : S := (.for (.one 2) (.range2 (.k (.int 1)) (.bi .len (.var 0))) (.cons (.set 3 (.call "trees_over" (.cons (.slc (.var 0) (.var 2) .none) .nil))) (.cons for_trees_over_1 .nil)))
/-- trees_over -/
def b_trees_over : Ss := (.cons (.ife (.cmp .eq (.bi .len (.var 0)) (.k (.int 1))) (.cons (.ret (.lst (.cons (.ix (.var 0) (.k (.int 0))) .nil))) .nil) .nil) (.cons (.set 1 (.lst .nil)) (.cons for_trees_over_2 (.cons (.ret (.var 1)) .nil))))
def f_trees_over : Fn := ⟨1, 6, [0], b_trees_over⟩
/-- readings -/
def b_readings : Ss := (.cons (.ife (.not (.call "is_row" (.cons (.var 0) .nil))) (.cons (.raise "BadRow" (.var 0)) .nil) .nil) (.cons (.ret (.bi .tuple (.call "readings_over" (.cons (.var 0) .nil)))) .nil))
def f_readings : Fn := ⟨1, 1, [0], b_readings⟩
end Rd
namespace PyEv
open PySem
/-- a call from its body -/
theorem ret_b {P : Prog} {n : Nat} {f : Str} {fn : Fn} {ws : List W} {w : W} {e : PyEv.Env} (h : P.fns.lookup f = some fn) (hl : ws.length = fn.n) (b : evSs P (callF P n) fn.keep fn.body (ws.map some ++ List.replicate (fn.m - fn.n) none) = .rt w e) : Ret P (n + 1) f ws w := ⟨e, by rw [call_eq h hl, b, finC]⟩
theorem ret_x {P : Prog} {n : Nat} {f : Str} {fn : Fn} {ws : List W} {w : W} (h : P.fns.lookup f = some fn) (hl : ws.length = fn.n) (b : ∃ v e, evSs P (callF P n) fn.keep fn.body (ws.map some ++ List.replicate (fn.m - fn.n) none) = .rt v e ∧ v = w) : Ret P (n + 1) f ws w := by
  obtain ⟨v, e, b, rfl⟩ := b
  exact ret_b h hl b
section
variable {P : Prog} {n : Nat}
variable [Con P "LETTERS" (.str "abcdefghijklmnopqrstuvwxyz")] [Con P "LONGEST_NAME" (.int 8)]
theorem lc_is_name {cs : List Nat} {o : Option W} (hl : cs.length ≤ 1000000) : evE P (callF P n) [0] Rd.lc_is_name_0 [some (.d (.str (tx cs))), o] = .ok (.val (.lst (cs.map fun c => .bl (letB c)))) [some (.d (.str (tx cs))), none] := by
  have hit : evIt P (callF P n) [0] (.seq (.var 0)) [some (.d (.str (tx cs))), o] = .ok (cs.map fun c => .str ⟨#[c]⟩) [some (.d (.str (tx cs))), o] := by
    have e : itemsF (.str (tx cs)) = some (cs.map fun c => .str ⟨#[c]⟩) := rfl
    simp only [evSs, evS, evE, evIts, evAs, evIt, evJs, Res.bind, Res.fl, Res.of, Fl.then, use, useB, item, take, slot_z, slot_s, nxO, stor, assignTg, W.frz, callA, bindA, bkn, bkc, useAll, C.d, E.isNone, partB, Option.bind, Option.map, Has.lk, Con.gl, Exn.ex, List.length_cons, List.length_nil, List.set_cons_zero, List.set_cons_succ, List.contains_cons, List.contains_nil, beq_iff_eq, Nat.reduceAdd, Nat.reduceLeDiff, Nat.reduceEqDiff, Nat.reduceBEq, Nat.reduceBNe, Int.reduceNeg, if_true, if_false, or_self, or_false, false_or, or_true, true_or, and_self, and_true, true_and, Bool.or_false, Bool.or_true, Bool.false_or, Bool.true_or, Bool.and_true, Bool.true_and, Bool.and_false, Bool.false_and, Bool.false_eq_true, Bool.not_true, Bool.not_false, decide_eq_true_eq, decide_true, decide_false, not_true_eq_false, not_false_eq_true, reduceIte, reduceCtorEq, Bool.not_eq_true', decide_eq_false_iff_not, List.cons_append, List.nil_append, List.append_nil, Nat.zero_le, Int.reduceEq, Int.reduceLT, Int.reduceLE, eq_self, cast0, cast1, cast2, cast3, cast4, cast5, cast6, cast7, cast8, cast9, lit_line, l_str, m_app, m_ext, o_adds, o_addl, o_addt, rv_s, binAdd, binSub, c_lt, c_le, c_gt, c_ge, isN_eq, notN_eq, nin_eq, in_eq, eq_eq2, ne_eq2, eqF_s, eqF_i, xdd, xtt, xll, at0, at1, at2, nn_non, nn_t, nn_l, nn_s, nn_i, nn_b, nn_c, nn_x, l_tup, l_lst, b_tt, b_tl, b_lt, b_ll, b_ii, b_repr2, b_all2, b_any2, rv_t, ty_1, ty_2, ty_3, ty_4, ty_5, ty_6, ty_7, ty_8, ty_9, ty_10, ty_11, ty_12, ty_13, ty_14, ty_15, ty_16, ty_17, ty_18, ty_19, ty_20, ty_21, ty_22, ty_23, ty_24, ty_25, ty_26, ty_27, ty_28, *]
  have e := lc1 (P := P) (cf := callF P n) (keep := [0]) (elt := .cmp .isin (.var 1) (.glob "LETTERS")) (i := 1) (nm := "sign") (env0 := [some (.d (.str (tx cs))), none]) (g := fun d => match d with | .str s => .bl (s.cps.toList.all letB) | _ => .non) hit rfl rfl (Nat.le_of_ble_eq_true rfl) (by simp [line]; omega) (fun x hx => by
    obtain ⟨c, _, rfl⟩ := List.mem_map.mp hx
    have hi := isin_sign c
    refine ⟨[some (.d (.str (tx cs))), some (.d (.str ⟨#[c]⟩))], .val (.d (.bl (letB c))), [some (.d (.str (tx cs))), some (.d (.str ⟨#[c]⟩))], [some (.d (.str (tx cs))), some (.d (.str ⟨#[c]⟩))], rfl, ?_, by simp [item, W.frz], rfl⟩
    simp only [evSs, evS, evE, evIts, evAs, evIt, evJs, Res.bind, Res.fl, Res.of, Fl.then, use, useB, item, take, slot_z, slot_s, nxO, stor, assignTg, W.frz, callA, bindA, bkn, bkc, useAll, C.d, E.isNone, partB, Option.bind, Option.map, Has.lk, Con.gl, Exn.ex, List.length_cons, List.length_nil, List.set_cons_zero, List.set_cons_succ, List.contains_cons, List.contains_nil, beq_iff_eq, Nat.reduceAdd, Nat.reduceLeDiff, Nat.reduceEqDiff, Nat.reduceBEq, Nat.reduceBNe, Int.reduceNeg, if_true, if_false, or_self, or_false, false_or, or_true, true_or, and_self, and_true, true_and, Bool.or_false, Bool.or_true, Bool.false_or, Bool.true_or, Bool.and_true, Bool.true_and, Bool.and_false, Bool.false_and, Bool.false_eq_true, Bool.not_true, Bool.not_false, decide_eq_true_eq, decide_true, decide_false, not_true_eq_false, not_false_eq_true, reduceIte, reduceCtorEq, Bool.not_eq_true', decide_eq_false_iff_not, List.cons_append, List.nil_append, List.append_nil, Nat.zero_le, Int.reduceEq, Int.reduceLT, Int.reduceLE, eq_self, cast0, cast1, cast2, cast3, cast4, cast5, cast6, cast7, cast8, cast9, lit_line, l_str, m_app, m_ext, o_adds, o_addl, o_addt, rv_s, binAdd, binSub, c_lt, c_le, c_gt, c_ge, isN_eq, notN_eq, nin_eq, in_eq, eq_eq2, ne_eq2, eqF_s, eqF_i, xdd, xtt, xll, at0, at1, at2, nn_non, nn_t, nn_l, nn_s, nn_i, nn_b, nn_c, nn_x, l_tup, l_lst, b_tt, b_tl, b_lt, b_ll, b_ii, b_repr2, b_all2, b_any2, rv_t, ty_1, ty_2, ty_3, ty_4, ty_5, ty_6, ty_7, ty_8, ty_9, ty_10, ty_11, ty_12, ty_13, ty_14, ty_15, ty_16, ty_17, ty_18, ty_19, ty_20, ty_21, ty_22, ty_23, ty_24, ty_25, ty_26, ty_27, ty_28, *])
  have e2 : (cs.map fun c => D.str ⟨#[c]⟩).map (fun d => match d with | .str s => .bl (s.cps.toList.all letB) | _ => D.non) = cs.map fun c => D.bl (letB c) := by
    rw [List.map_map]
    apply List.map_congr_left
    intro c _
    simp
  rw [e2] at e
  exact e
variable [Has P "is_name" Rd.f_is_name]
theorem is_name_s {cs : List Nat} (hl : cs.length ≤ 1000000) : Ret P (n + 1) "is_name" [.d (.str (tx cs))] (.d (.bl (nmB cs))) := by
  have hlc := lc_is_name (P := P) (n := n) (o := none) hl
  have hall := allBl_map letB cs
  have hz : (tx cs).length ≤ line := by simp [line]; omega
  refine ret_x Has.lk rfl ?_
  show ∃ v e, evSs P (callF P n) [0] Rd.b_is_name [some (.d (.str (tx cs))), none] = .rt v e ∧ v = _
  unfold Rd.b_is_name
  by_cases h1 : (1 : Int) ≤ ((tx cs).length : Int)
  · by_cases h8 : ((tx cs).length : Int) ≤ 8
    · have g1 : 1 ≤ cs.length := by simp at h1; omega
      have g8 : cs.length ≤ 8 := by simp at h8; omega
      simp only [evSs, evS, evE, evIts, evAs, evIt, evJs, Res.bind, Res.fl, Res.of, Fl.then, use, useB, item, take, slot_z, slot_s, nxO, stor, assignTg, W.frz, callA, bindA, bkn, bkc, useAll, C.d, E.isNone, partB, Option.bind, Option.map, Has.lk, Con.gl, Exn.ex, List.length_cons, List.length_nil, List.set_cons_zero, List.set_cons_succ, List.contains_cons, List.contains_nil, beq_iff_eq, Nat.reduceAdd, Nat.reduceLeDiff, Nat.reduceEqDiff, Nat.reduceBEq, Nat.reduceBNe, Int.reduceNeg, if_true, if_false, or_self, or_false, false_or, or_true, true_or, and_self, and_true, true_and, Bool.or_false, Bool.or_true, Bool.false_or, Bool.true_or, Bool.and_true, Bool.true_and, Bool.and_false, Bool.false_and, Bool.false_eq_true, Bool.not_true, Bool.not_false, decide_eq_true_eq, decide_true, decide_false, not_true_eq_false, not_false_eq_true, reduceIte, reduceCtorEq, Bool.not_eq_true', decide_eq_false_iff_not, List.cons_append, List.nil_append, List.append_nil, Nat.zero_le, Int.reduceEq, Int.reduceLT, Int.reduceLE, eq_self, cast0, cast1, cast2, cast3, cast4, cast5, cast6, cast7, cast8, cast9, lit_line, l_str, m_app, m_ext, o_adds, o_addl, o_addt, rv_s, binAdd, binSub, c_lt, c_le, c_gt, c_ge, isN_eq, notN_eq, nin_eq, in_eq, eq_eq2, ne_eq2, eqF_s, eqF_i, xdd, xtt, xll, at0, at1, at2, nn_non, nn_t, nn_l, nn_s, nn_i, nn_b, nn_c, nn_x, l_tup, l_lst, b_tt, b_tl, b_lt, b_ll, b_ii, b_repr2, b_all2, b_any2, rv_t, ty_1, ty_2, ty_3, ty_4, ty_5, ty_6, ty_7, ty_8, ty_9, ty_10, ty_11, ty_12, ty_13, ty_14, ty_15, ty_16, ty_17, ty_18, ty_19, ty_20, ty_21, ty_22, ty_23, ty_24, ty_25, ty_26, ty_27, ty_28, *]
      refine ⟨_, _, rfl, ?_⟩
      simp [nmB, g1, g8]
    · have g8 : ¬ cs.length ≤ 8 := by simp at h8; omega
      simp only [evSs, evS, evE, evIts, evAs, evIt, evJs, Res.bind, Res.fl, Res.of, Fl.then, use, useB, item, take, slot_z, slot_s, nxO, stor, assignTg, W.frz, callA, bindA, bkn, bkc, useAll, C.d, E.isNone, partB, Option.bind, Option.map, Has.lk, Con.gl, Exn.ex, List.length_cons, List.length_nil, List.set_cons_zero, List.set_cons_succ, List.contains_cons, List.contains_nil, beq_iff_eq, Nat.reduceAdd, Nat.reduceLeDiff, Nat.reduceEqDiff, Nat.reduceBEq, Nat.reduceBNe, Int.reduceNeg, if_true, if_false, or_self, or_false, false_or, or_true, true_or, and_self, and_true, true_and, Bool.or_false, Bool.or_true, Bool.false_or, Bool.true_or, Bool.and_true, Bool.true_and, Bool.and_false, Bool.false_and, Bool.false_eq_true, Bool.not_true, Bool.not_false, decide_eq_true_eq, decide_true, decide_false, not_true_eq_false, not_false_eq_true, reduceIte, reduceCtorEq, Bool.not_eq_true', decide_eq_false_iff_not, List.cons_append, List.nil_append, List.append_nil, Nat.zero_le, Int.reduceEq, Int.reduceLT, Int.reduceLE, eq_self, cast0, cast1, cast2, cast3, cast4, cast5, cast6, cast7, cast8, cast9, lit_line, l_str, m_app, m_ext, o_adds, o_addl, o_addt, rv_s, binAdd, binSub, c_lt, c_le, c_gt, c_ge, isN_eq, notN_eq, nin_eq, in_eq, eq_eq2, ne_eq2, eqF_s, eqF_i, xdd, xtt, xll, at0, at1, at2, nn_non, nn_t, nn_l, nn_s, nn_i, nn_b, nn_c, nn_x, l_tup, l_lst, b_tt, b_tl, b_lt, b_ll, b_ii, b_repr2, b_all2, b_any2, rv_t, ty_1, ty_2, ty_3, ty_4, ty_5, ty_6, ty_7, ty_8, ty_9, ty_10, ty_11, ty_12, ty_13, ty_14, ty_15, ty_16, ty_17, ty_18, ty_19, ty_20, ty_21, ty_22, ty_23, ty_24, ty_25, ty_26, ty_27, ty_28, *]
      refine ⟨_, _, rfl, ?_⟩
      simp [nmB, g8]
  · have g1 : ¬ 1 ≤ cs.length := by simp at h1; omega
    simp only [evSs, evS, evE, evIts, evAs, evIt, evJs, Res.bind, Res.fl, Res.of, Fl.then, use, useB, item, take, slot_z, slot_s, nxO, stor, assignTg, W.frz, callA, bindA, bkn, bkc, useAll, C.d, E.isNone, partB, Option.bind, Option.map, Has.lk, Con.gl, Exn.ex, List.length_cons, List.length_nil, List.set_cons_zero, List.set_cons_succ, List.contains_cons, List.contains_nil, beq_iff_eq, Nat.reduceAdd, Nat.reduceLeDiff, Nat.reduceEqDiff, Nat.reduceBEq, Nat.reduceBNe, Int.reduceNeg, if_true, if_false, or_self, or_false, false_or, or_true, true_or, and_self, and_true, true_and, Bool.or_false, Bool.or_true, Bool.false_or, Bool.true_or, Bool.and_true, Bool.true_and, Bool.and_false, Bool.false_and, Bool.false_eq_true, Bool.not_true, Bool.not_false, decide_eq_true_eq, decide_true, decide_false, not_true_eq_false, not_false_eq_true, reduceIte, reduceCtorEq, Bool.not_eq_true', decide_eq_false_iff_not, List.cons_append, List.nil_append, List.append_nil, Nat.zero_le, Int.reduceEq, Int.reduceLT, Int.reduceLE, eq_self, cast0, cast1, cast2, cast3, cast4, cast5, cast6, cast7, cast8, cast9, lit_line, l_str, m_app, m_ext, o_adds, o_addl, o_addt, rv_s, binAdd, binSub, c_lt, c_le, c_gt, c_ge, isN_eq, notN_eq, nin_eq, in_eq, eq_eq2, ne_eq2, eqF_s, eqF_i, xdd, xtt, xll, at0, at1, at2, nn_non, nn_t, nn_l, nn_s, nn_i, nn_b, nn_c, nn_x, l_tup, l_lst, b_tt, b_tl, b_lt, b_ll, b_ii, b_repr2, b_all2, b_any2, rv_t, ty_1, ty_2, ty_3, ty_4, ty_5, ty_6, ty_7, ty_8, ty_9, ty_10, ty_11, ty_12, ty_13, ty_14, ty_15, ty_16, ty_17, ty_18, ty_19, ty_20, ty_21, ty_22, ty_23, ty_24, ty_25, ty_26, ty_27, ty_28, *]
    refine ⟨_, _, rfl, ?_⟩
    simp [nmB, g1]
theorem is_name_no {x : D} (hx : D.isTy .str x = some false) : Ret P (n + 1) "is_name" [.d x] (.d (.bl false)) := by
  refine ret_x Has.lk rfl ?_
  show ∃ v e, evSs P (callF P n) [0] Rd.b_is_name [some (.d x), none] = .rt v e ∧ v = _
  unfold Rd.b_is_name
  simp only [evSs, evS, evE, evIts, evAs, evIt, evJs, Res.bind, Res.fl, Res.of, Fl.then, use, useB, item, take, slot_z, slot_s, nxO, stor, assignTg, W.frz, callA, bindA, bkn, bkc, useAll, C.d, E.isNone, partB, Option.bind, Option.map, Has.lk, Con.gl, Exn.ex, List.length_cons, List.length_nil, List.set_cons_zero, List.set_cons_succ, List.contains_cons, List.contains_nil, beq_iff_eq, Nat.reduceAdd, Nat.reduceLeDiff, Nat.reduceEqDiff, Nat.reduceBEq, Nat.reduceBNe, Int.reduceNeg, if_true, if_false, or_self, or_false, false_or, or_true, true_or, and_self, and_true, true_and, Bool.or_false, Bool.or_true, Bool.false_or, Bool.true_or, Bool.and_true, Bool.true_and, Bool.and_false, Bool.false_and, Bool.false_eq_true, Bool.not_true, Bool.not_false, decide_eq_true_eq, decide_true, decide_false, not_true_eq_false, not_false_eq_true, reduceIte, reduceCtorEq, Bool.not_eq_true', decide_eq_false_iff_not, List.cons_append, List.nil_append, List.append_nil, Nat.zero_le, Int.reduceEq, Int.reduceLT, Int.reduceLE, eq_self, cast0, cast1, cast2, cast3, cast4, cast5, cast6, cast7, cast8, cast9, lit_line, l_str, m_app, m_ext, o_adds, o_addl, o_addt, rv_s, binAdd, binSub, c_lt, c_le, c_gt, c_ge, isN_eq, notN_eq, nin_eq, in_eq, eq_eq2, ne_eq2, eqF_s, eqF_i, xdd, xtt, xll, at0, at1, at2, nn_non, nn_t, nn_l, nn_s, nn_i, nn_b, nn_c, nn_x, l_tup, l_lst, b_tt, b_tl, b_lt, b_ll, b_ii, b_repr2, b_all2, b_any2, rv_t, ty_1, ty_2, ty_3, ty_4, ty_5, ty_6, ty_7, ty_8, ty_9, ty_10, ty_11, ty_12, ty_13, ty_14, ty_15, ty_16, ty_17, ty_18, ty_19, ty_20, ty_21, ty_22, ty_23, ty_24, ty_25, ty_26, ty_27, ty_28, *]
  refine ⟨_, _, rfl, ?_⟩
  rfl
theorem is_name_d {x : D} (hx : Pd x = true) : Ret P (n + 1) "is_name" [.d x] (.d (.bl (isNameD x))) := by
  cases x with
  | str s =>
    have h := is_name_s (P := P) (n := n) (cs := s.cps.toList) (by have := Pd_str hx; rw [str_len] at this; exact this)
    exact h
  | _ => first | (exact is_name_no rfl) | (simp [Pd] at hx; done)
variable [Has P "is_threefold" Rd.f_is_threefold] [Con P "OTHER_SIDE" (.dct ["right", "left"] [.str "left", .str "right"])]
theorem is_threefold_d {x : D} (hx : Pd x = true) : Ret P (n + 1) "is_threefold" [.d x] (.d (.bl (threeOf x).isSome)) := by
  have no : ∀ {x : D}, D.isTy .tuple x = some false → threeOf x = none → Ret P (n + 1) "is_threefold" [.d x] (.d (.bl (threeOf x).isSome)) := fun {x} h h2 => by
    refine ret_x Has.lk rfl ?_
    show ∃ v e, evSs P (callF P n) [0] Rd.b_is_threefold [some (.d x)] = .rt v e ∧ v = _
    unfold Rd.b_is_threefold
    simp only [evSs, evS, evE, evIts, evAs, evIt, evJs, Res.bind, Res.fl, Res.of, Fl.then, use, useB, item, take, slot_z, slot_s, nxO, stor, assignTg, W.frz, callA, bindA, bkn, bkc, useAll, C.d, E.isNone, partB, Option.bind, Option.map, Has.lk, Con.gl, Exn.ex, List.length_cons, List.length_nil, List.set_cons_zero, List.set_cons_succ, List.contains_cons, List.contains_nil, beq_iff_eq, Nat.reduceAdd, Nat.reduceLeDiff, Nat.reduceEqDiff, Nat.reduceBEq, Nat.reduceBNe, Int.reduceNeg, if_true, if_false, or_self, or_false, false_or, or_true, true_or, and_self, and_true, true_and, Bool.or_false, Bool.or_true, Bool.false_or, Bool.true_or, Bool.and_true, Bool.true_and, Bool.and_false, Bool.false_and, Bool.false_eq_true, Bool.not_true, Bool.not_false, decide_eq_true_eq, decide_true, decide_false, not_true_eq_false, not_false_eq_true, reduceIte, reduceCtorEq, Bool.not_eq_true', decide_eq_false_iff_not, List.cons_append, List.nil_append, List.append_nil, Nat.zero_le, Int.reduceEq, Int.reduceLT, Int.reduceLE, eq_self, cast0, cast1, cast2, cast3, cast4, cast5, cast6, cast7, cast8, cast9, lit_line, l_str, m_app, m_ext, o_adds, o_addl, o_addt, rv_s, binAdd, binSub, c_lt, c_le, c_gt, c_ge, isN_eq, notN_eq, nin_eq, in_eq, eq_eq2, ne_eq2, eqF_s, eqF_i, xdd, xtt, xll, at0, at1, at2, nn_non, nn_t, nn_l, nn_s, nn_i, nn_b, nn_c, nn_x, l_tup, l_lst, b_tt, b_tl, b_lt, b_ll, b_ii, b_repr2, b_all2, b_any2, rv_t, ty_1, ty_2, ty_3, ty_4, ty_5, ty_6, ty_7, ty_8, ty_9, ty_10, ty_11, ty_12, ty_13, ty_14, ty_15, ty_16, ty_17, ty_18, ty_19, ty_20, ty_21, ty_22, ty_23, ty_24, ty_25, ty_26, ty_27, ty_28, *]
    refine ⟨_, _, rfl, ?_⟩
    rfl
  cases x with
  | tup xs =>
    refine ret_x Has.lk rfl ?_
    show ∃ v e, evSs P (callF P n) [0] Rd.b_is_threefold [some (.d (.tup xs))] = .rt v e ∧ v = _
    unfold Rd.b_is_threefold
    by_cases h3 : xs.length = 3
    · match xs, h3, hx with
      | [a, b, c], _, hx =>
        obtain ⟨t, ht⟩ := Pd_ty (x := a) ((Pd_tup hx).2 a List.mem_cons_self) .str
        cases t with
        | false =>
          have h2 : threeOf (.tup [a, b, c]) = none := by
            cases a <;> first | rfl | (cases ht; done)
          simp only [evSs, evS, evE, evIts, evAs, evIt, evJs, Res.bind, Res.fl, Res.of, Fl.then, use, useB, item, take, slot_z, slot_s, nxO, stor, assignTg, W.frz, callA, bindA, bkn, bkc, useAll, C.d, E.isNone, partB, Option.bind, Option.map, Has.lk, Con.gl, Exn.ex, List.length_cons, List.length_nil, List.set_cons_zero, List.set_cons_succ, List.contains_cons, List.contains_nil, beq_iff_eq, Nat.reduceAdd, Nat.reduceLeDiff, Nat.reduceEqDiff, Nat.reduceBEq, Nat.reduceBNe, Int.reduceNeg, if_true, if_false, or_self, or_false, false_or, or_true, true_or, and_self, and_true, true_and, Bool.or_false, Bool.or_true, Bool.false_or, Bool.true_or, Bool.and_true, Bool.true_and, Bool.and_false, Bool.false_and, Bool.false_eq_true, Bool.not_true, Bool.not_false, decide_eq_true_eq, decide_true, decide_false, not_true_eq_false, not_false_eq_true, reduceIte, reduceCtorEq, Bool.not_eq_true', decide_eq_false_iff_not, List.cons_append, List.nil_append, List.append_nil, Nat.zero_le, Int.reduceEq, Int.reduceLT, Int.reduceLE, eq_self, cast0, cast1, cast2, cast3, cast4, cast5, cast6, cast7, cast8, cast9, lit_line, l_str, m_app, m_ext, o_adds, o_addl, o_addt, rv_s, binAdd, binSub, c_lt, c_le, c_gt, c_ge, isN_eq, notN_eq, nin_eq, in_eq, eq_eq2, ne_eq2, eqF_s, eqF_i, xdd, xtt, xll, at0, at1, at2, nn_non, nn_t, nn_l, nn_s, nn_i, nn_b, nn_c, nn_x, l_tup, l_lst, b_tt, b_tl, b_lt, b_ll, b_ii, b_repr2, b_all2, b_any2, rv_t, ty_1, ty_2, ty_3, ty_4, ty_5, ty_6, ty_7, ty_8, ty_9, ty_10, ty_11, ty_12, ty_13, ty_14, ty_15, ty_16, ty_17, ty_18, ty_19, ty_20, ty_21, ty_22, ty_23, ty_24, ty_25, ty_26, ty_27, ty_28, *]
          refine ⟨_, _, rfl, ?_⟩
          rfl
        | true =>
          cases a with
          | str s =>
            simp only [evSs, evS, evE, evIts, evAs, evIt, evJs, Res.bind, Res.fl, Res.of, Fl.then, use, useB, item, take, slot_z, slot_s, nxO, stor, assignTg, W.frz, callA, bindA, bkn, bkc, useAll, C.d, E.isNone, partB, Option.bind, Option.map, Has.lk, Con.gl, Exn.ex, List.length_cons, List.length_nil, List.set_cons_zero, List.set_cons_succ, List.contains_cons, List.contains_nil, beq_iff_eq, Nat.reduceAdd, Nat.reduceLeDiff, Nat.reduceEqDiff, Nat.reduceBEq, Nat.reduceBNe, Int.reduceNeg, if_true, if_false, or_self, or_false, false_or, or_true, true_or, and_self, and_true, true_and, Bool.or_false, Bool.or_true, Bool.false_or, Bool.true_or, Bool.and_true, Bool.true_and, Bool.and_false, Bool.false_and, Bool.false_eq_true, Bool.not_true, Bool.not_false, decide_eq_true_eq, decide_true, decide_false, not_true_eq_false, not_false_eq_true, reduceIte, reduceCtorEq, Bool.not_eq_true', decide_eq_false_iff_not, List.cons_append, List.nil_append, List.append_nil, Nat.zero_le, Int.reduceEq, Int.reduceLT, Int.reduceLE, eq_self, cast0, cast1, cast2, cast3, cast4, cast5, cast6, cast7, cast8, cast9, lit_line, l_str, m_app, m_ext, o_adds, o_addl, o_addt, rv_s, binAdd, binSub, c_lt, c_le, c_gt, c_ge, isN_eq, notN_eq, nin_eq, in_eq, eq_eq2, ne_eq2, eqF_s, eqF_i, xdd, xtt, xll, at0, at1, at2, nn_non, nn_t, nn_l, nn_s, nn_i, nn_b, nn_c, nn_x, l_tup, l_lst, b_tt, b_tl, b_lt, b_ll, b_ii, b_repr2, b_all2, b_any2, rv_t, ty_1, ty_2, ty_3, ty_4, ty_5, ty_6, ty_7, ty_8, ty_9, ty_10, ty_11, ty_12, ty_13, ty_14, ty_15, ty_16, ty_17, ty_18, ty_19, ty_20, ty_21, ty_22, ty_23, ty_24, ty_25, ty_26, ty_27, ty_28, *]
            refine ⟨_, _, rfl, ?_⟩
            simp only [threeOf]
            by_cases h1 : s = (Str.ofString "right")
            · simp [h1]
            · by_cases h2 : s = (Str.ofString "left")
              · rw [h2]; rfl
              · simp [h1, h2]
          | _ => cases ht
    · have h2 : threeOf (.tup xs) = none := by
        unfold threeOf
        split
        · rename_i e; cases e; exact absurd rfl h3
        · rfl
      have h3' : ¬ ((xs.length : Int) = 3) := by omega
      simp only [evSs, evS, evE, evIts, evAs, evIt, evJs, Res.bind, Res.fl, Res.of, Fl.then, use, useB, item, take, slot_z, slot_s, nxO, stor, assignTg, W.frz, callA, bindA, bkn, bkc, useAll, C.d, E.isNone, partB, Option.bind, Option.map, Has.lk, Con.gl, Exn.ex, List.length_cons, List.length_nil, List.set_cons_zero, List.set_cons_succ, List.contains_cons, List.contains_nil, beq_iff_eq, Nat.reduceAdd, Nat.reduceLeDiff, Nat.reduceEqDiff, Nat.reduceBEq, Nat.reduceBNe, Int.reduceNeg, if_true, if_false, or_self, or_false, false_or, or_true, true_or, and_self, and_true, true_and, Bool.or_false, Bool.or_true, Bool.false_or, Bool.true_or, Bool.and_true, Bool.true_and, Bool.and_false, Bool.false_and, Bool.false_eq_true, Bool.not_true, Bool.not_false, decide_eq_true_eq, decide_true, decide_false, not_true_eq_false, not_false_eq_true, reduceIte, reduceCtorEq, Bool.not_eq_true', decide_eq_false_iff_not, List.cons_append, List.nil_append, List.append_nil, Nat.zero_le, Int.reduceEq, Int.reduceLT, Int.reduceLE, eq_self, cast0, cast1, cast2, cast3, cast4, cast5, cast6, cast7, cast8, cast9, lit_line, l_str, m_app, m_ext, o_adds, o_addl, o_addt, rv_s, binAdd, binSub, c_lt, c_le, c_gt, c_ge, isN_eq, notN_eq, nin_eq, in_eq, eq_eq2, ne_eq2, eqF_s, eqF_i, xdd, xtt, xll, at0, at1, at2, nn_non, nn_t, nn_l, nn_s, nn_i, nn_b, nn_c, nn_x, l_tup, l_lst, b_tt, b_tl, b_lt, b_ll, b_ii, b_repr2, b_all2, b_any2, rv_t, ty_1, ty_2, ty_3, ty_4, ty_5, ty_6, ty_7, ty_8, ty_9, ty_10, ty_11, ty_12, ty_13, ty_14, ty_15, ty_16, ty_17, ty_18, ty_19, ty_20, ty_21, ty_22, ty_23, ty_24, ty_25, ty_26, ty_27, ty_28, *]
      refine ⟨_, _, rfl, ?_⟩
      rfl
  | _ => first | (exact no rfl rfl) | (simp [Pd] at hx; done)
variable [Has P "is_tree" Rd.f_is_tree]
theorem is_tree_d : ∀ (m : Nat) {x : D}, Pd x = true → dep x ≤ m → Ret P (m + 2) "is_tree" [.d x] (.d (.bl (toTr x).isSome)) := by
  intro m
  induction m with
  | zero =>
    intro x hx hd
    obtain ⟨o1, h1⟩ := is_name_d (P := P) (n := 0) hx
    obtain ⟨o2, h2⟩ := is_threefold_d (P := P) (n := 0) hx
    have h3 : threeOf x = none := by
      cases x <;> first | rfl | (simp [dep] at hd; done)
    rw [h3] at h2
    change callF P 1 _ _ = .ok (.d (.bl false)) _ at h2
    have ht : (toTr x).isSome = isNameD x := by
      rw [toTr_eq]
      cases x <;> first | (simp only [h3]; rfl) | skip
      simp only [isNameD]
      split <;> simp_all
    rw [ht]
    generalize isNameD x = t at h1
    change callF P 1 _ _ = _ at h1
    refine ret_x Has.lk rfl ?_
    show ∃ v e, evSs P (callF P 1) [0] Rd.b_is_tree [some (.d x)] = .rt v e ∧ v = _
    unfold Rd.b_is_tree
    cases t
    · simp only [evSs, evS, evE, evIts, evAs, evIt, evJs, Res.bind, Res.fl, Res.of, Fl.then, use, useB, item, take, slot_z, slot_s, nxO, stor, assignTg, W.frz, callA, bindA, bkn, bkc, useAll, C.d, E.isNone, partB, Option.bind, Option.map, Has.lk, Con.gl, Exn.ex, List.length_cons, List.length_nil, List.set_cons_zero, List.set_cons_succ, List.contains_cons, List.contains_nil, beq_iff_eq, Nat.reduceAdd, Nat.reduceLeDiff, Nat.reduceEqDiff, Nat.reduceBEq, Nat.reduceBNe, Int.reduceNeg, if_true, if_false, or_self, or_false, false_or, or_true, true_or, and_self, and_true, true_and, Bool.or_false, Bool.or_true, Bool.false_or, Bool.true_or, Bool.and_true, Bool.true_and, Bool.and_false, Bool.false_and, Bool.false_eq_true, Bool.not_true, Bool.not_false, decide_eq_true_eq, decide_true, decide_false, not_true_eq_false, not_false_eq_true, reduceIte, reduceCtorEq, Bool.not_eq_true', decide_eq_false_iff_not, List.cons_append, List.nil_append, List.append_nil, Nat.zero_le, Int.reduceEq, Int.reduceLT, Int.reduceLE, eq_self, cast0, cast1, cast2, cast3, cast4, cast5, cast6, cast7, cast8, cast9, lit_line, l_str, m_app, m_ext, o_adds, o_addl, o_addt, rv_s, binAdd, binSub, c_lt, c_le, c_gt, c_ge, isN_eq, notN_eq, nin_eq, in_eq, eq_eq2, ne_eq2, eqF_s, eqF_i, xdd, xtt, xll, at0, at1, at2, nn_non, nn_t, nn_l, nn_s, nn_i, nn_b, nn_c, nn_x, l_tup, l_lst, b_tt, b_tl, b_lt, b_ll, b_ii, b_repr2, b_all2, b_any2, rv_t, ty_1, ty_2, ty_3, ty_4, ty_5, ty_6, ty_7, ty_8, ty_9, ty_10, ty_11, ty_12, ty_13, ty_14, ty_15, ty_16, ty_17, ty_18, ty_19, ty_20, ty_21, ty_22, ty_23, ty_24, ty_25, ty_26, ty_27, ty_28, *]
      refine ⟨_, _, rfl, ?_⟩
      rfl
    · simp only [evSs, evS, evE, evIts, evAs, evIt, evJs, Res.bind, Res.fl, Res.of, Fl.then, use, useB, item, take, slot_z, slot_s, nxO, stor, assignTg, W.frz, callA, bindA, bkn, bkc, useAll, C.d, E.isNone, partB, Option.bind, Option.map, Has.lk, Con.gl, Exn.ex, List.length_cons, List.length_nil, List.set_cons_zero, List.set_cons_succ, List.contains_cons, List.contains_nil, beq_iff_eq, Nat.reduceAdd, Nat.reduceLeDiff, Nat.reduceEqDiff, Nat.reduceBEq, Nat.reduceBNe, Int.reduceNeg, if_true, if_false, or_self, or_false, false_or, or_true, true_or, and_self, and_true, true_and, Bool.or_false, Bool.or_true, Bool.false_or, Bool.true_or, Bool.and_true, Bool.true_and, Bool.and_false, Bool.false_and, Bool.false_eq_true, Bool.not_true, Bool.not_false, decide_eq_true_eq, decide_true, decide_false, not_true_eq_false, not_false_eq_true, reduceIte, reduceCtorEq, Bool.not_eq_true', decide_eq_false_iff_not, List.cons_append, List.nil_append, List.append_nil, Nat.zero_le, Int.reduceEq, Int.reduceLT, Int.reduceLE, eq_self, cast0, cast1, cast2, cast3, cast4, cast5, cast6, cast7, cast8, cast9, lit_line, l_str, m_app, m_ext, o_adds, o_addl, o_addt, rv_s, binAdd, binSub, c_lt, c_le, c_gt, c_ge, isN_eq, notN_eq, nin_eq, in_eq, eq_eq2, ne_eq2, eqF_s, eqF_i, xdd, xtt, xll, at0, at1, at2, nn_non, nn_t, nn_l, nn_s, nn_i, nn_b, nn_c, nn_x, l_tup, l_lst, b_tt, b_tl, b_lt, b_ll, b_ii, b_repr2, b_all2, b_any2, rv_t, ty_1, ty_2, ty_3, ty_4, ty_5, ty_6, ty_7, ty_8, ty_9, ty_10, ty_11, ty_12, ty_13, ty_14, ty_15, ty_16, ty_17, ty_18, ty_19, ty_20, ty_21, ty_22, ty_23, ty_24, ty_25, ty_26, ty_27, ty_28, *]
      refine ⟨_, _, rfl, ?_⟩
      rfl
  | succ m ih =>
    intro x hx hd
    obtain ⟨o1, h1⟩ := is_name_d (P := P) (n := m + 1) hx
    obtain ⟨o2, h2⟩ := is_threefold_d (P := P) (n := m + 1) hx
    refine ret_x Has.lk rfl ?_
    show ∃ v e, evSs P (callF P (m + 2)) [0] Rd.b_is_tree [some (.d x)] = .rt v e ∧ v = _
    unfold Rd.b_is_tree
    cases h3 : threeOf x with
    | none =>
      rw [h3] at h2
      change callF P (m + 2) _ _ = .ok (.d (.bl false)) _ at h2
      have ht : (toTr x).isSome = isNameD x := by
        rw [toTr_eq]
        cases x <;> first | (simp only [h3]; rfl) | skip
        simp only [isNameD]
        split <;> simp_all
      rw [ht]
      generalize isNameD x = t at h1
      change callF P (m + 2) _ _ = _ at h1
      cases t
      · simp only [evSs, evS, evE, evIts, evAs, evIt, evJs, Res.bind, Res.fl, Res.of, Fl.then, use, useB, item, take, slot_z, slot_s, nxO, stor, assignTg, W.frz, callA, bindA, bkn, bkc, useAll, C.d, E.isNone, partB, Option.bind, Option.map, Has.lk, Con.gl, Exn.ex, List.length_cons, List.length_nil, List.set_cons_zero, List.set_cons_succ, List.contains_cons, List.contains_nil, beq_iff_eq, Nat.reduceAdd, Nat.reduceLeDiff, Nat.reduceEqDiff, Nat.reduceBEq, Nat.reduceBNe, Int.reduceNeg, if_true, if_false, or_self, or_false, false_or, or_true, true_or, and_self, and_true, true_and, Bool.or_false, Bool.or_true, Bool.false_or, Bool.true_or, Bool.and_true, Bool.true_and, Bool.and_false, Bool.false_and, Bool.false_eq_true, Bool.not_true, Bool.not_false, decide_eq_true_eq, decide_true, decide_false, not_true_eq_false, not_false_eq_true, reduceIte, reduceCtorEq, Bool.not_eq_true', decide_eq_false_iff_not, List.cons_append, List.nil_append, List.append_nil, Nat.zero_le, Int.reduceEq, Int.reduceLT, Int.reduceLE, eq_self, cast0, cast1, cast2, cast3, cast4, cast5, cast6, cast7, cast8, cast9, lit_line, l_str, m_app, m_ext, o_adds, o_addl, o_addt, rv_s, binAdd, binSub, c_lt, c_le, c_gt, c_ge, isN_eq, notN_eq, nin_eq, in_eq, eq_eq2, ne_eq2, eqF_s, eqF_i, xdd, xtt, xll, at0, at1, at2, nn_non, nn_t, nn_l, nn_s, nn_i, nn_b, nn_c, nn_x, l_tup, l_lst, b_tt, b_tl, b_lt, b_ll, b_ii, b_repr2, b_all2, b_any2, rv_t, ty_1, ty_2, ty_3, ty_4, ty_5, ty_6, ty_7, ty_8, ty_9, ty_10, ty_11, ty_12, ty_13, ty_14, ty_15, ty_16, ty_17, ty_18, ty_19, ty_20, ty_21, ty_22, ty_23, ty_24, ty_25, ty_26, ty_27, ty_28, *]
        refine ⟨_, _, rfl, ?_⟩
        rfl
      · simp only [evSs, evS, evE, evIts, evAs, evIt, evJs, Res.bind, Res.fl, Res.of, Fl.then, use, useB, item, take, slot_z, slot_s, nxO, stor, assignTg, W.frz, callA, bindA, bkn, bkc, useAll, C.d, E.isNone, partB, Option.bind, Option.map, Has.lk, Con.gl, Exn.ex, List.length_cons, List.length_nil, List.set_cons_zero, List.set_cons_succ, List.contains_cons, List.contains_nil, beq_iff_eq, Nat.reduceAdd, Nat.reduceLeDiff, Nat.reduceEqDiff, Nat.reduceBEq, Nat.reduceBNe, Int.reduceNeg, if_true, if_false, or_self, or_false, false_or, or_true, true_or, and_self, and_true, true_and, Bool.or_false, Bool.or_true, Bool.false_or, Bool.true_or, Bool.and_true, Bool.true_and, Bool.and_false, Bool.false_and, Bool.false_eq_true, Bool.not_true, Bool.not_false, decide_eq_true_eq, decide_true, decide_false, not_true_eq_false, not_false_eq_true, reduceIte, reduceCtorEq, Bool.not_eq_true', decide_eq_false_iff_not, List.cons_append, List.nil_append, List.append_nil, Nat.zero_le, Int.reduceEq, Int.reduceLT, Int.reduceLE, eq_self, cast0, cast1, cast2, cast3, cast4, cast5, cast6, cast7, cast8, cast9, lit_line, l_str, m_app, m_ext, o_adds, o_addl, o_addt, rv_s, binAdd, binSub, c_lt, c_le, c_gt, c_ge, isN_eq, notN_eq, nin_eq, in_eq, eq_eq2, ne_eq2, eqF_s, eqF_i, xdd, xtt, xll, at0, at1, at2, nn_non, nn_t, nn_l, nn_s, nn_i, nn_b, nn_c, nn_x, l_tup, l_lst, b_tt, b_tl, b_lt, b_ll, b_ii, b_repr2, b_all2, b_any2, rv_t, ty_1, ty_2, ty_3, ty_4, ty_5, ty_6, ty_7, ty_8, ty_9, ty_10, ty_11, ty_12, ty_13, ty_14, ty_15, ty_16, ty_17, ty_18, ty_19, ty_20, ty_21, ty_22, ty_23, ty_24, ty_25, ty_26, ty_27, ty_28, *]
        refine ⟨_, _, rfl, ?_⟩
        rfl
    | some p =>
      obtain ⟨r, a, b⟩ := p
      have ex := three_some h3
      subst ex
      rw [h3] at h2
      change callF P (m + 2) _ _ = .ok (.d (.bl true)) _ at h2
      change callF P (m + 2) _ _ = .ok (.d (.bl false)) _ at h1
      obtain ⟨_, hp⟩ := Pd_tup hx
      have ha := hp a (by simp)
      have hb := hp b (by simp)
      have hd2 : dep a ≤ m ∧ dep b ≤ m := by simp [dep, deps] at hd; omega
      obtain ⟨o3, e3⟩ := ih ha hd2.1
      obtain ⟨o4, e4⟩ := ih hb hd2.2
      rw [toTr_eq]
      simp only [three_side]
      cases ea : toTr a with
      | none =>
        rw [ea] at e3
        change callF P (m + 2) _ _ = .ok (.d (.bl false)) _ at e3
        simp only [evSs, evS, evE, evIts, evAs, evIt, evJs, Res.bind, Res.fl, Res.of, Fl.then, use, useB, item, take, slot_z, slot_s, nxO, stor, assignTg, W.frz, callA, bindA, bkn, bkc, useAll, C.d, E.isNone, partB, Option.bind, Option.map, Has.lk, Con.gl, Exn.ex, List.length_cons, List.length_nil, List.set_cons_zero, List.set_cons_succ, List.contains_cons, List.contains_nil, beq_iff_eq, Nat.reduceAdd, Nat.reduceLeDiff, Nat.reduceEqDiff, Nat.reduceBEq, Nat.reduceBNe, Int.reduceNeg, if_true, if_false, or_self, or_false, false_or, or_true, true_or, and_self, and_true, true_and, Bool.or_false, Bool.or_true, Bool.false_or, Bool.true_or, Bool.and_true, Bool.true_and, Bool.and_false, Bool.false_and, Bool.false_eq_true, Bool.not_true, Bool.not_false, decide_eq_true_eq, decide_true, decide_false, not_true_eq_false, not_false_eq_true, reduceIte, reduceCtorEq, Bool.not_eq_true', decide_eq_false_iff_not, List.cons_append, List.nil_append, List.append_nil, Nat.zero_le, Int.reduceEq, Int.reduceLT, Int.reduceLE, eq_self, cast0, cast1, cast2, cast3, cast4, cast5, cast6, cast7, cast8, cast9, lit_line, l_str, m_app, m_ext, o_adds, o_addl, o_addt, rv_s, binAdd, binSub, c_lt, c_le, c_gt, c_ge, isN_eq, notN_eq, nin_eq, in_eq, eq_eq2, ne_eq2, eqF_s, eqF_i, xdd, xtt, xll, at0, at1, at2, nn_non, nn_t, nn_l, nn_s, nn_i, nn_b, nn_c, nn_x, l_tup, l_lst, b_tt, b_tl, b_lt, b_ll, b_ii, b_repr2, b_all2, b_any2, rv_t, ty_1, ty_2, ty_3, ty_4, ty_5, ty_6, ty_7, ty_8, ty_9, ty_10, ty_11, ty_12, ty_13, ty_14, ty_15, ty_16, ty_17, ty_18, ty_19, ty_20, ty_21, ty_22, ty_23, ty_24, ty_25, ty_26, ty_27, ty_28, *]
        refine ⟨_, _, rfl, ?_⟩
        rfl
      | some u =>
        rw [ea] at e3
        change callF P (m + 2) _ _ = .ok (.d (.bl true)) _ at e3
        simp only [evSs, evS, evE, evIts, evAs, evIt, evJs, Res.bind, Res.fl, Res.of, Fl.then, use, useB, item, take, slot_z, slot_s, nxO, stor, assignTg, W.frz, callA, bindA, bkn, bkc, useAll, C.d, E.isNone, partB, Option.bind, Option.map, Has.lk, Con.gl, Exn.ex, List.length_cons, List.length_nil, List.set_cons_zero, List.set_cons_succ, List.contains_cons, List.contains_nil, beq_iff_eq, Nat.reduceAdd, Nat.reduceLeDiff, Nat.reduceEqDiff, Nat.reduceBEq, Nat.reduceBNe, Int.reduceNeg, if_true, if_false, or_self, or_false, false_or, or_true, true_or, and_self, and_true, true_and, Bool.or_false, Bool.or_true, Bool.false_or, Bool.true_or, Bool.and_true, Bool.true_and, Bool.and_false, Bool.false_and, Bool.false_eq_true, Bool.not_true, Bool.not_false, decide_eq_true_eq, decide_true, decide_false, not_true_eq_false, not_false_eq_true, reduceIte, reduceCtorEq, Bool.not_eq_true', decide_eq_false_iff_not, List.cons_append, List.nil_append, List.append_nil, Nat.zero_le, Int.reduceEq, Int.reduceLT, Int.reduceLE, eq_self, cast0, cast1, cast2, cast3, cast4, cast5, cast6, cast7, cast8, cast9, lit_line, l_str, m_app, m_ext, o_adds, o_addl, o_addt, rv_s, binAdd, binSub, c_lt, c_le, c_gt, c_ge, isN_eq, notN_eq, nin_eq, in_eq, eq_eq2, ne_eq2, eqF_s, eqF_i, xdd, xtt, xll, at0, at1, at2, nn_non, nn_t, nn_l, nn_s, nn_i, nn_b, nn_c, nn_x, l_tup, l_lst, b_tt, b_tl, b_lt, b_ll, b_ii, b_repr2, b_all2, b_any2, rv_t, ty_1, ty_2, ty_3, ty_4, ty_5, ty_6, ty_7, ty_8, ty_9, ty_10, ty_11, ty_12, ty_13, ty_14, ty_15, ty_16, ty_17, ty_18, ty_19, ty_20, ty_21, ty_22, ty_23, ty_24, ty_25, ty_26, ty_27, ty_28, *]
        refine ⟨_, _, rfl, ?_⟩
        cases toTr b <;> rfl
variable [Has P "ends_of" Rd.f_ends_of]
theorem ends_of_t : ∀ (t : Tr) (n : Nat), t.depth < n → t.ends.length ≤ 1000000 → Ret P n "ends_of" [.d t.D] (.lst (t.ends.map D.str))
  | .leaf s, n + 1, h, _ => by
    refine ret_x Has.lk rfl ?_
    show ∃ v e, evSs P (callF P n) [0] Rd.b_ends_of [some (.d (.str s))] = .rt v e ∧ v = _
    unfold Rd.b_ends_of
    simp only [evSs, evS, evE, evIts, evAs, evIt, evJs, Res.bind, Res.fl, Res.of, Fl.then, use, useB, item, take, slot_z, slot_s, nxO, stor, assignTg, W.frz, callA, bindA, bkn, bkc, useAll, C.d, E.isNone, partB, Option.bind, Option.map, Has.lk, Con.gl, Exn.ex, List.length_cons, List.length_nil, List.set_cons_zero, List.set_cons_succ, List.contains_cons, List.contains_nil, beq_iff_eq, Nat.reduceAdd, Nat.reduceLeDiff, Nat.reduceEqDiff, Nat.reduceBEq, Nat.reduceBNe, Int.reduceNeg, if_true, if_false, or_self, or_false, false_or, or_true, true_or, and_self, and_true, true_and, Bool.or_false, Bool.or_true, Bool.false_or, Bool.true_or, Bool.and_true, Bool.true_and, Bool.and_false, Bool.false_and, Bool.false_eq_true, Bool.not_true, Bool.not_false, decide_eq_true_eq, decide_true, decide_false, not_true_eq_false, not_false_eq_true, reduceIte, reduceCtorEq, Bool.not_eq_true', decide_eq_false_iff_not, List.cons_append, List.nil_append, List.append_nil, Nat.zero_le, Int.reduceEq, Int.reduceLT, Int.reduceLE, eq_self, cast0, cast1, cast2, cast3, cast4, cast5, cast6, cast7, cast8, cast9, lit_line, l_str, m_app, m_ext, o_adds, o_addl, o_addt, rv_s, binAdd, binSub, c_lt, c_le, c_gt, c_ge, isN_eq, notN_eq, nin_eq, in_eq, eq_eq2, ne_eq2, eqF_s, eqF_i, xdd, xtt, xll, at0, at1, at2, nn_non, nn_t, nn_l, nn_s, nn_i, nn_b, nn_c, nn_x, l_tup, l_lst, b_tt, b_tl, b_lt, b_ll, b_ii, b_repr2, b_all2, b_any2, rv_t, ty_1, ty_2, ty_3, ty_4, ty_5, ty_6, ty_7, ty_8, ty_9, ty_10, ty_11, ty_12, ty_13, ty_14, ty_15, ty_16, ty_17, ty_18, ty_19, ty_20, ty_21, ty_22, ty_23, ty_24, ty_25, ty_26, ty_27, ty_28, *]
    refine ⟨_, _, rfl, ?_⟩
    rfl
  | .node r a b, n + 1, h, hl => by
    simp only [Tr.depth, Tr.ends, List.length_append] at h hl
    obtain ⟨o1, h1⟩ := ends_of_t a n (by omega) (by omega)
    obtain ⟨o2, h2⟩ := ends_of_t b n (by omega) (by omega)
    refine ret_x Has.lk rfl ?_
    show ∃ v e, evSs P (callF P n) [0] Rd.b_ends_of [some (.d (.tup [.str (side r), a.D, b.D]))] = .rt v e ∧ v = _
    unfold Rd.b_ends_of
    have hz : (a.ends.map D.str).length + (b.ends.map D.str).length ≤ line := by simp [line]; omega
    simp only [evSs, evS, evE, evIts, evAs, evIt, evJs, Res.bind, Res.fl, Res.of, Fl.then, use, useB, item, take, slot_z, slot_s, nxO, stor, assignTg, W.frz, callA, bindA, bkn, bkc, useAll, C.d, E.isNone, partB, Option.bind, Option.map, Has.lk, Con.gl, Exn.ex, List.length_cons, List.length_nil, List.set_cons_zero, List.set_cons_succ, List.contains_cons, List.contains_nil, beq_iff_eq, Nat.reduceAdd, Nat.reduceLeDiff, Nat.reduceEqDiff, Nat.reduceBEq, Nat.reduceBNe, Int.reduceNeg, if_true, if_false, or_self, or_false, false_or, or_true, true_or, and_self, and_true, true_and, Bool.or_false, Bool.or_true, Bool.false_or, Bool.true_or, Bool.and_true, Bool.true_and, Bool.and_false, Bool.false_and, Bool.false_eq_true, Bool.not_true, Bool.not_false, decide_eq_true_eq, decide_true, decide_false, not_true_eq_false, not_false_eq_true, reduceIte, reduceCtorEq, Bool.not_eq_true', decide_eq_false_iff_not, List.cons_append, List.nil_append, List.append_nil, Nat.zero_le, Int.reduceEq, Int.reduceLT, Int.reduceLE, eq_self, cast0, cast1, cast2, cast3, cast4, cast5, cast6, cast7, cast8, cast9, lit_line, l_str, m_app, m_ext, o_adds, o_addl, o_addt, rv_s, binAdd, binSub, c_lt, c_le, c_gt, c_ge, isN_eq, notN_eq, nin_eq, in_eq, eq_eq2, ne_eq2, eqF_s, eqF_i, xdd, xtt, xll, at0, at1, at2, nn_non, nn_t, nn_l, nn_s, nn_i, nn_b, nn_c, nn_x, l_tup, l_lst, b_tt, b_tl, b_lt, b_ll, b_ii, b_repr2, b_all2, b_any2, rv_t, ty_1, ty_2, ty_3, ty_4, ty_5, ty_6, ty_7, ty_8, ty_9, ty_10, ty_11, ty_12, ty_13, ty_14, ty_15, ty_16, ty_17, ty_18, ty_19, ty_20, ty_21, ty_22, ty_23, ty_24, ty_25, ty_26, ty_27, ty_28, *]
    refine ⟨_, _, rfl, ?_⟩
    simp [Tr.ends]
variable [Has P "is_reading" Rd.f_is_reading] [Con P "MOST_ENDS" (.int 6)]
theorem is_reading_d {m : Nat} {x : D} (hx : Pd x = true) (hd : dep x ≤ m) (hm : dep x ≤ 19) : Ret P (m + 3) "is_reading" [.d x] (.d (.bl (isReadD x))) := by
  obtain ⟨o1, h1⟩ := is_tree_d (P := P) m hx hd
  refine ret_x Has.lk rfl ?_
  show ∃ v e, evSs P (callF P (m + 2)) [0] Rd.b_is_reading [some (.d x)] = .rt v e ∧ v = _
  unfold Rd.b_is_reading
  unfold isReadD
  cases ht : toTr x with
  | none =>
    rw [ht] at h1
    change callF P (m + 2) _ _ = .ok (.d (.bl false)) _ at h1
    simp only [evSs, evS, evE, evIts, evAs, evIt, evJs, Res.bind, Res.fl, Res.of, Fl.then, use, useB, item, take, slot_z, slot_s, nxO, stor, assignTg, W.frz, callA, bindA, bkn, bkc, useAll, C.d, E.isNone, partB, Option.bind, Option.map, Has.lk, Con.gl, Exn.ex, List.length_cons, List.length_nil, List.set_cons_zero, List.set_cons_succ, List.contains_cons, List.contains_nil, beq_iff_eq, Nat.reduceAdd, Nat.reduceLeDiff, Nat.reduceEqDiff, Nat.reduceBEq, Nat.reduceBNe, Int.reduceNeg, if_true, if_false, or_self, or_false, false_or, or_true, true_or, and_self, and_true, true_and, Bool.or_false, Bool.or_true, Bool.false_or, Bool.true_or, Bool.and_true, Bool.true_and, Bool.and_false, Bool.false_and, Bool.false_eq_true, Bool.not_true, Bool.not_false, decide_eq_true_eq, decide_true, decide_false, not_true_eq_false, not_false_eq_true, reduceIte, reduceCtorEq, Bool.not_eq_true', decide_eq_false_iff_not, List.cons_append, List.nil_append, List.append_nil, Nat.zero_le, Int.reduceEq, Int.reduceLT, Int.reduceLE, eq_self, cast0, cast1, cast2, cast3, cast4, cast5, cast6, cast7, cast8, cast9, lit_line, l_str, m_app, m_ext, o_adds, o_addl, o_addt, rv_s, binAdd, binSub, c_lt, c_le, c_gt, c_ge, isN_eq, notN_eq, nin_eq, in_eq, eq_eq2, ne_eq2, eqF_s, eqF_i, xdd, xtt, xll, at0, at1, at2, nn_non, nn_t, nn_l, nn_s, nn_i, nn_b, nn_c, nn_x, l_tup, l_lst, b_tt, b_tl, b_lt, b_ll, b_ii, b_repr2, b_all2, b_any2, rv_t, ty_1, ty_2, ty_3, ty_4, ty_5, ty_6, ty_7, ty_8, ty_9, ty_10, ty_11, ty_12, ty_13, ty_14, ty_15, ty_16, ty_17, ty_18, ty_19, ty_20, ty_21, ty_22, ty_23, ty_24, ty_25, ty_26, ty_27, ty_28, *]
    refine ⟨_, _, rfl, ?_⟩
    rfl
  | some t =>
    rw [ht] at h1
    change callF P (m + 2) _ _ = .ok (.d (.bl true)) _ at h1
    obtain ⟨rfl, ht2⟩ := toTr_some ht
    rw [D_dep] at hd hm
    have hp := ends_pow t
    have hp2 : 2 ^ t.depth ≤ 2 ^ 19 := Nat.pow_le_pow_right (by decide) (by omega)
    obtain ⟨o2, h2⟩ := ends_of_t (P := P) t (m + 2) (by omega) (by omega)
    simp only [evSs, evS, evE, evIts, evAs, evIt, evJs, Res.bind, Res.fl, Res.of, Fl.then, use, useB, item, take, slot_z, slot_s, nxO, stor, assignTg, W.frz, callA, bindA, bkn, bkc, useAll, C.d, E.isNone, partB, Option.bind, Option.map, Has.lk, Con.gl, Exn.ex, List.length_cons, List.length_nil, List.set_cons_zero, List.set_cons_succ, List.contains_cons, List.contains_nil, beq_iff_eq, Nat.reduceAdd, Nat.reduceLeDiff, Nat.reduceEqDiff, Nat.reduceBEq, Nat.reduceBNe, Int.reduceNeg, if_true, if_false, or_self, or_false, false_or, or_true, true_or, and_self, and_true, true_and, Bool.or_false, Bool.or_true, Bool.false_or, Bool.true_or, Bool.and_true, Bool.true_and, Bool.and_false, Bool.false_and, Bool.false_eq_true, Bool.not_true, Bool.not_false, decide_eq_true_eq, decide_true, decide_false, not_true_eq_false, not_false_eq_true, reduceIte, reduceCtorEq, Bool.not_eq_true', decide_eq_false_iff_not, List.cons_append, List.nil_append, List.append_nil, Nat.zero_le, Int.reduceEq, Int.reduceLT, Int.reduceLE, eq_self, cast0, cast1, cast2, cast3, cast4, cast5, cast6, cast7, cast8, cast9, lit_line, l_str, m_app, m_ext, o_adds, o_addl, o_addt, rv_s, binAdd, binSub, c_lt, c_le, c_gt, c_ge, isN_eq, notN_eq, nin_eq, in_eq, eq_eq2, ne_eq2, eqF_s, eqF_i, xdd, xtt, xll, at0, at1, at2, nn_non, nn_t, nn_l, nn_s, nn_i, nn_b, nn_c, nn_x, l_tup, l_lst, b_tt, b_tl, b_lt, b_ll, b_ii, b_repr2, b_all2, b_any2, rv_t, ty_1, ty_2, ty_3, ty_4, ty_5, ty_6, ty_7, ty_8, ty_9, ty_10, ty_11, ty_12, ty_13, ty_14, ty_15, ty_16, ty_17, ty_18, ty_19, ty_20, ty_21, ty_22, ty_23, ty_24, ty_25, ty_26, ty_27, ty_28, *]
    refine ⟨_, _, rfl, ?_⟩
    simp
    omega
end
end PyEv

set_option maxRecDepth 100000
set_option maxHeartbeats 4000000
/-! PyRdC: texts of readings, read. -/
namespace PyEv
open PySem
def op (r : Bool) : Nat := if r then 40 else 91
def cl (r : Bool) : Nat := if r then 41 else 93
def Tr.sp : Tr → List Nat
  | .leaf s => s.cps.toList
  | .node r a b => op r :: (a.sp ++ 32 :: (b.sp ++ [cl r]))
theorem name_len {s : Str} (h : nameS s = true) : 1 ≤ s.cps.toList.length ∧ s.cps.toList.length ≤ 8 ∧ ∀ c ∈ s.cps.toList, letB c = true := by
  simp only [nameS, nmB, Bool.and_eq_true, decide_eq_true_eq, List.all_eq_true] at h
  exact ⟨h.1, h.2.1, h.2.2⟩
theorem sp_len : ∀ (t : Tr), t.named → t.sp.length + 3 ≤ 11 * t.ends.length
  | .leaf s, g => by
    have := (name_len (named_leaf g)).2.1
    simp only [Tr.sp, Tr.ends, List.length_cons, List.length_nil]; omega
  | .node r a b, g => by
    have := sp_len a (named_node.mp g).1
    have := sp_len b (named_node.mp g).2
    simp only [Tr.sp, Tr.ends, List.length_cons, List.length_append, List.length_nil]; omega
/-- the name at the head of a text -/
def rdName (l : List Nat) : Option (Tr × List Nat) := if nmB (l.takeWhile letB) = true then some (.leaf (tx (l.takeWhile letB)), l.dropWhile letB) else none
theorem mem_takeW {p : Nat → Bool} : ∀ {l : List Nat} {c : Nat}, c ∈ l.takeWhile p → p c = true
  | [], _, h => by simp at h
  | a :: l, c, h => by
    cases ha : p a with
    | false => simp [List.takeWhile, ha] at h
    | true =>
      simp only [List.takeWhile, ha, List.mem_cons] at h
      rcases h with rfl | h
      · exact ha
      · exact mem_takeW h
def opB (c : Nat) : Bool := decide (c = 40) || decide (c = 91)
theorem op_of {c : Nat} (h : opB c = true) : ∃ r, c = op r := by
  simp only [opB, Bool.or_eq_true, decide_eq_true_eq] at h
  rcases h with rfl | rfl
  · exact ⟨true, rfl⟩
  · exact ⟨false, rfl⟩
theorem opB_op {r : Bool} : opB (op r) = true := by cases r <;> rfl
theorem op40 {r : Bool} : decide (op r = 40) = r := by cases r <;> rfl
def rdTree : Nat → List Nat → Option (Tr × List Nat)
  | _, [] => none
  | 0, c :: r => if opB c = true then none else rdName (c :: r)
  | k + 1, c :: r => if opB c = true then (match rdTree k r with
      | some (a, d :: r2) => if d = 32 then (match rdTree k r2 with
        | some (b, e :: r3) => if e = cl (decide (c = 40)) then some (.node (decide (c = 40)) a b, r3) else none
        | _ => none) else none
      | _ => none) else rdName (c :: r)
theorem rdName_some {l r : List Nat} {t : Tr} (h : rdName l = some (t, r)) : l = t.sp ++ r ∧ t.named ∧ t.depth = 0 := by
  unfold rdName at h
  split at h
  · rename_i hn
    cases h
    refine ⟨?_, fun s hs => ?_, rfl⟩
    · show l = l.takeWhile letB ++ l.dropWhile letB
      rw [List.takeWhile_append_dropWhile]
    · rcases List.mem_singleton.mp hs with rfl; exact hn
  · cases h
theorem rdTree_some : ∀ (k : Nat) {l r : List Nat} {t : Tr}, rdTree k l = some (t, r) → l = t.sp ++ r ∧ t.named ∧ t.depth ≤ k
  | 0, [], _, _, h => by simp [rdTree] at h
  | k + 1, [], _, _, h => by simp [rdTree] at h
  | 0, c :: l, r, t, h => by
    unfold rdTree at h
    split at h
    · cases h
    · obtain ⟨h1, h2, h3⟩ := rdName_some h
      exact ⟨h1, h2, by omega⟩
  | k + 1, c :: l, r, t, h => by
    unfold rdTree at h
    split at h
    · rename_i hc
      obtain ⟨q, rfl⟩ := op_of hc
      split at h
      · rename_i a d r2 h1
        split at h
        · rename_i h2
          subst h2
          split at h
          · rename_i b e r3 h3
            split at h
            · rename_i h4
              subst h4
              cases h
              obtain ⟨e1, n1, d1⟩ := rdTree_some k h1
              obtain ⟨e2, n2, d2⟩ := rdTree_some k h3
              refine ⟨?_, named_node.mpr ⟨n1, n2⟩, by simp only [Tr.depth]; omega⟩
              rw [e1, e2, op40]
              simp [Tr.sp]
            · cases h
          · cases h
        · cases h
      · cases h
    · obtain ⟨h1, h2, h3⟩ := rdName_some h
      exact ⟨h1, h2, by omega⟩
theorem op_let {r : Bool} : letB (op r) = false := by cases r <;> rfl
theorem cl_let {r : Bool} : letB (cl r) = false := by cases r <;> rfl
theorem opB_let {c : Nat} (h : letB c = true) : opB c = false := by
  have := letB_iff.mp h
  simp [opB]; omega
theorem take_all {p : Nat → Bool} : ∀ {w r : List Nat}, (∀ c ∈ w, p c = true) → (∀ c r', r = c :: r' → p c = false) → (w ++ r).takeWhile p = w ∧ (w ++ r).dropWhile p = r
  | [], [], _, _ => ⟨rfl, rfl⟩
  | [], c :: r, _, h => by
    have := h c r rfl
    simp [List.takeWhile, List.dropWhile, this]
  | a :: w, r, hw, h => by
    have h1 := hw a List.mem_cons_self
    obtain ⟨i1, i2⟩ := take_all (fun c hc => hw c (List.mem_cons_of_mem _ hc)) h
    simp [List.takeWhile, List.dropWhile, h1, i1, i2]
theorem rdName_app {s : Str} (h : nameS s = true) {r : List Nat} (hr : ∀ c r', r = c :: r' → letB c = false) : rdName (s.cps.toList ++ r) = some (.leaf s, r) := by
  obtain ⟨_, _, hl⟩ := name_len h
  obtain ⟨e1, e2⟩ := take_all hl hr
  unfold rdName
  rw [e1, e2]
  exact if_pos h
theorem rdTree_app : ∀ (k : Nat) {t : Tr} {r : List Nat}, t.named → t.depth ≤ k → (∀ c r', r = c :: r' → letB c = false) → rdTree k (t.sp ++ r) = some (t, r)
  | k, .leaf s, r, h, _, hr => by
    have hs := named_leaf h
    obtain ⟨h1, _, hl⟩ := name_len hs
    have e := rdName_app hs hr
    simp only [Tr.sp]
    cases hc : s.cps.toList with
    | nil => rw [hc] at h1; simp at h1
    | cons c cs =>
      rw [hc] at e
      have hc2 := opB_let (hl c (by rw [hc]; exact List.mem_cons_self))
      cases k <;> simp only [List.cons_append, rdTree] at e ⊢ <;> rw [if_neg (by rw [hc2]; decide)] <;> exact e
  | 0, .node q a b, r, _, hd, _ => by simp [Tr.depth] at hd
  | k + 1, .node q a b, r, h, hd, _ => by
    simp only [Tr.depth] at hd
    obtain ⟨n1, n2⟩ := named_node.mp h
    have h1 := rdTree_app k (t := a) (r := 32 :: (b.sp ++ (cl q :: r))) n1 (by omega) (fun c r' e => by cases e; rfl)
    have h2 := rdTree_app k (t := b) (r := cl q :: r) n2 (by omega) (fun c r' e => by cases e; exact cl_let)
    have e : (Tr.node q a b).sp ++ r = op q :: (a.sp ++ 32 :: (b.sp ++ (cl q :: r))) := by simp [Tr.sp]
    rw [e]
    unfold rdTree
    rw [if_pos opB_op]
    simp only [h1, h2, if_true, op40]
/-! ### slices -/
theorem six_nat {n d k : Nat} {v : Int} (h : v = (k : Int)) : HT.sIx n d (some v) = min k n := by rw [h]; exact HT.sIx_nat n d k
theorem cut_mid {L p w q : List Nat} {i j : Int} (e : L = p ++ (w ++ q)) (hi : i = (p.length : Int)) (hj : j = ((p.length + w.length : Nat) : Int)) : L2.cutS (tx L) (some i) (some j) = tx w := by
  subst e
  unfold L2.cutS
  rw [six_nat hi, six_nat hj, tx_len, tx_cps]
  have e1 : min p.length (p ++ (w ++ q)).length = p.length := by simp
  have e2 : min (p.length + w.length) (p ++ (w ++ q)).length = p.length + w.length := by simp
  rw [e1, e2, List.drop_left, Nat.add_sub_cancel_left, List.take_left]
  rfl
theorem slc_mid {L p w q : List Nat} {i j : Int} (e : L = p ++ (w ++ q)) (hi : i = (p.length : Int)) (hj : j = ((p.length + w.length : Nat) : Int)) (hl : L.length ≤ 1000000) : slcF (.str (tx L)) (some i) (some j) = some (.d (.str (tx w))) := by
  show (if (tx L).length ≤ line then some (PyEv.W.d (.str (L2.cutS (tx L) (some i) (some j)))) else none) = _
  rw [if_pos (by rw [tx_len]; unfold line; omega), cut_mid e hi hj]
theorem slc_end {L : List Nat} {i j : Int} (hi : i = (L.length : Int)) (hj : j = ((L.length + 1 : Nat) : Int)) (hl : L.length ≤ 1000000) : slcF (.str (tx L)) (some i) (some j) = some (.d (.str (tx []))) := by
  show (if (tx L).length ≤ line then some (PyEv.W.d (.str (L2.cutS (tx L) (some i) (some j)))) else none) = _
  rw [if_pos (by rw [tx_len]; unfold line; omega)]
  unfold L2.cutS
  rw [six_nat hi, six_nat hj, tx_len, tx_cps]
  simp [tx]
/-- the sign at a place, if there is one -/
theorem slc_one {L p l : List Nat} {i : Int} (e : L = p ++ l) (hi : i = (p.length : Int)) (hl : L.length ≤ 1000000) : slcF (.str (tx L)) (some i) (some (i + 1)) = some (.d (.str (tx (l.take 1)))) := by
  cases l with
  | nil =>
    rw [List.append_nil] at e
    subst e
    exact slc_end hi (by omega) hl
  | cons c r => exact slc_mid (w := [c]) (q := r) e hi (by simp; omega) hl
theorem at_mid {L p q : List Nat} {c : Nat} {i : Int} (e : L = p ++ c :: q) (hi : i = (p.length : Int)) : L2.atI (tx L).cps.toList i = some c := by
  subst e
  rw [hi]
  exact L2.atI_nat (by show (p ++ c :: q)[p.length]? = _; simp)
theorem ix_mid {L p q : List Nat} {c : Nat} {i : Int} (e : L = p ++ c :: q) (hi : i = (p.length : Int)) (hl : L.length ≤ 1000000) : ixF (.str (tx L)) (.int i) = some (.str ⟨#[c]⟩) := by
  show (if (tx L).length ≤ line then (L2.atI (tx L).cps.toList i).map (fun c => D.str ⟨#[c]⟩) else none) = _
  rw [if_pos (by rw [tx_len]; unfold line; omega), at_mid e hi]
  rfl
section
variable {P : Prog}
variable [Con P "LETTERS" (.str "abcdefghijklmnopqrstuvwxyz")]
theorem name_loop {cf : Str → List W → CRes} {p w q : List Nat} {a : Int} (ha : a = (p.length : Int)) (hw : ∀ c ∈ w, letB c = true) (hq : ∀ c r, q = c :: r → letB c = false) (hl : (p ++ (w ++ q)).length ≤ 50000) :
    evS P cf [0, 1] Rd.whl_read_name_0 [some (.d (.str (tx (p ++ (w ++ q))))), some (.d (.int a)), some (.d (.int a))] = .nx [some (.d (.str (tx (p ++ (w ++ q))))), some (.d (.int a)), some (.d (.int ((p.length + w.length : Nat) : Int)))] := by
  generalize hL : p ++ (w ++ q) = L at hl ⊢
  have hz : (tx L).length ≤ line := by rw [tx_len]; unfold line; omega
  have hLl : L.length = p.length + (w.length + q.length) := by rw [← hL]; simp
  obtain ⟨env', e, r⟩ := whlL_run (c := fun env => useB (evE P cf [0, 1] (.and (.cmp .lt (.var 2) (.bi .len (.var 0))) (.cmp .isin (.ix (.var 0) (.var 2)) (.glob "LETTERS"))) env)) (body := fun env => evSs P cf [0, 1] (.cons (.set 2 (.bin .add (.var 2) (.k (.int 1)))) .nil) env)
    (fun m env => ∃ (k : Nat) (i : Int), k + m = w.length ∧ i = (p.length : Int) + k ∧ env = [some (.d (.str (tx L))), some (.d (.int a)), some (.d (.int i))])
    (fun env => env = [some (.d (.str (tx L))), some (.d (.int a)), some (.d (.int ((p.length + w.length : Nat) : Int)))])
    (by
      rintro m env ⟨k, i, hk, hi, rfl⟩
      have hlt : k < w.length := by omega
      have ew : w = w.take k ++ w[k] :: w.drop (k + 1) := by simp
      have hat : ixF (.str (tx L)) (.int i) = some (.str ⟨#[w[k]]⟩) := by
        refine ix_mid (p := p ++ w.take k) (q := w.drop (k + 1) ++ q) ?_ (by simp; omega) (by omega)
        rw [← hL, show p ++ (w ++ q) = p ++ ((w.take k ++ w[k] :: w.drop (k + 1)) ++ q) by rw [← ew]]
        simp only [List.append_assoc, List.cons_append]
      have hs := isin_sign (c := w[k])
      rw [hw w[k] (List.getElem_mem hlt)] at hs
      have z2 : i < ((tx L).length : Int) := by rw [tx_len]; omega
      refine ⟨[some (.d (.str (tx L))), some (.d (.int a)), some (.d (.int i))], [some (.d (.str (tx L))), some (.d (.int a)), some (.d (.int (i + 1)))], ?_, ?_, k + 1, i + 1, by omega, by omega, rfl⟩
      · generalize w[k] = c at hat hs
        clear hL hLl ew hw hq hk hi
        refine useB_ok (x := .val (.d (.bl true))) ?_ rfl
        simp only [evSs, evS, evE, evIts, evAs, evIt, evJs, Res.bind, Res.fl, Res.of, Fl.then, use, useB, item, take, slot_z, slot_s, nxO, stor, assignTg, W.frz, callA, bindA, bkn, bkc, useAll, C.d, E.isNone, partB, Option.bind, Option.map, Has.lk, Con.gl, Exn.ex, List.length_cons, List.length_nil, List.set_cons_zero, List.set_cons_succ, List.contains_cons, List.contains_nil, beq_iff_eq, Nat.reduceAdd, Nat.reduceLeDiff, Nat.reduceEqDiff, Nat.reduceBEq, Nat.reduceBNe, Int.reduceNeg, if_true, if_false, or_self, or_false, false_or, or_true, true_or, and_self, and_true, true_and, Bool.or_false, Bool.or_true, Bool.false_or, Bool.true_or, Bool.and_true, Bool.true_and, Bool.and_false, Bool.false_and, Bool.false_eq_true, Bool.not_true, Bool.not_false, decide_eq_true_eq, decide_true, decide_false, not_true_eq_false, not_false_eq_true, reduceIte, reduceCtorEq, Bool.not_eq_true', decide_eq_false_iff_not, List.cons_append, List.nil_append, List.append_nil, Nat.zero_le, Int.reduceEq, Int.reduceLT, Int.reduceLE, eq_self, cast0, cast1, cast2, cast3, cast4, cast5, cast6, cast7, cast8, cast9, lit_line, l_str, m_app, m_ext, o_adds, o_addl, o_addt, rv_s, binAdd, binSub, c_lt, c_le, c_gt, c_ge, isN_eq, notN_eq, nin_eq, in_eq, eq_eq2, ne_eq2, eqF_s, eqF_i, xdd, xtt, xll, at0, at1, at2, nn_non, nn_t, nn_l, nn_s, nn_i, nn_b, nn_c, nn_x, l_tup, l_lst, b_tt, b_tl, b_lt, b_ll, b_ii, b_repr2, b_all2, b_any2, rv_t, ty_1, ty_2, ty_3, ty_4, ty_5, ty_6, ty_7, ty_8, ty_9, ty_10, ty_11, ty_12, ty_13, ty_14, ty_15, ty_16, ty_17, ty_18, ty_19, ty_20, ty_21, ty_22, ty_23, ty_24, ty_25, ty_26, ty_27, ty_28, *]
      · clear hL hLl ew hw hq hk hi hat hs
        simp only [evSs, evS, evE, evIts, evAs, evIt, evJs, Res.bind, Res.fl, Res.of, Fl.then, use, useB, item, take, slot_z, slot_s, nxO, stor, assignTg, W.frz, callA, bindA, bkn, bkc, useAll, C.d, E.isNone, partB, Option.bind, Option.map, Has.lk, Con.gl, Exn.ex, List.length_cons, List.length_nil, List.set_cons_zero, List.set_cons_succ, List.contains_cons, List.contains_nil, beq_iff_eq, Nat.reduceAdd, Nat.reduceLeDiff, Nat.reduceEqDiff, Nat.reduceBEq, Nat.reduceBNe, Int.reduceNeg, if_true, if_false, or_self, or_false, false_or, or_true, true_or, and_self, and_true, true_and, Bool.or_false, Bool.or_true, Bool.false_or, Bool.true_or, Bool.and_true, Bool.true_and, Bool.and_false, Bool.false_and, Bool.false_eq_true, Bool.not_true, Bool.not_false, decide_eq_true_eq, decide_true, decide_false, not_true_eq_false, not_false_eq_true, reduceIte, reduceCtorEq, Bool.not_eq_true', decide_eq_false_iff_not, List.cons_append, List.nil_append, List.append_nil, Nat.zero_le, Int.reduceEq, Int.reduceLT, Int.reduceLE, eq_self, cast0, cast1, cast2, cast3, cast4, cast5, cast6, cast7, cast8, cast9, lit_line, l_str, m_app, m_ext, o_adds, o_addl, o_addt, rv_s, binAdd, binSub, c_lt, c_le, c_gt, c_ge, isN_eq, notN_eq, nin_eq, in_eq, eq_eq2, ne_eq2, eqF_s, eqF_i, xdd, xtt, xll, at0, at1, at2, nn_non, nn_t, nn_l, nn_s, nn_i, nn_b, nn_c, nn_x, l_tup, l_lst, b_tt, b_tl, b_lt, b_ll, b_ii, b_repr2, b_all2, b_any2, rv_t, ty_1, ty_2, ty_3, ty_4, ty_5, ty_6, ty_7, ty_8, ty_9, ty_10, ty_11, ty_12, ty_13, ty_14, ty_15, ty_16, ty_17, ty_18, ty_19, ty_20, ty_21, ty_22, ty_23, ty_24, ty_25, ty_26, ty_27, ty_28, *])
    (by
      rintro env ⟨k, i, hk, hi, rfl⟩
      have ei : i = ((p.length + w.length : Nat) : Int) := by omega
      subst ei
      refine ⟨[some (.d (.str (tx L))), some (.d (.int a)), some (.d (.int ((p.length + w.length : Nat) : Int)))], ?_, rfl⟩
      cases q with
      | nil =>
        have z' : ¬ (((p.length + w.length : Nat) : Int) < ((tx L).length : Int)) := by rw [tx_len]; simp at hLl; omega
        generalize ((p.length + w.length : Nat) : Int) = i at *
        clear hL hLl hw hq hk hi
        refine useB_ok (x := .val (.d (.bl false))) ?_ rfl
        simp only [evSs, evS, evE, evIts, evAs, evIt, evJs, Res.bind, Res.fl, Res.of, Fl.then, use, useB, item, take, slot_z, slot_s, nxO, stor, assignTg, W.frz, callA, bindA, bkn, bkc, useAll, C.d, E.isNone, partB, Option.bind, Option.map, Has.lk, Con.gl, Exn.ex, List.length_cons, List.length_nil, List.set_cons_zero, List.set_cons_succ, List.contains_cons, List.contains_nil, beq_iff_eq, Nat.reduceAdd, Nat.reduceLeDiff, Nat.reduceEqDiff, Nat.reduceBEq, Nat.reduceBNe, Int.reduceNeg, if_true, if_false, or_self, or_false, false_or, or_true, true_or, and_self, and_true, true_and, Bool.or_false, Bool.or_true, Bool.false_or, Bool.true_or, Bool.and_true, Bool.true_and, Bool.and_false, Bool.false_and, Bool.false_eq_true, Bool.not_true, Bool.not_false, decide_eq_true_eq, decide_true, decide_false, not_true_eq_false, not_false_eq_true, reduceIte, reduceCtorEq, Bool.not_eq_true', decide_eq_false_iff_not, List.cons_append, List.nil_append, List.append_nil, Nat.zero_le, Int.reduceEq, Int.reduceLT, Int.reduceLE, eq_self, cast0, cast1, cast2, cast3, cast4, cast5, cast6, cast7, cast8, cast9, lit_line, l_str, m_app, m_ext, o_adds, o_addl, o_addt, rv_s, binAdd, binSub, c_lt, c_le, c_gt, c_ge, isN_eq, notN_eq, nin_eq, in_eq, eq_eq2, ne_eq2, eqF_s, eqF_i, xdd, xtt, xll, at0, at1, at2, nn_non, nn_t, nn_l, nn_s, nn_i, nn_b, nn_c, nn_x, l_tup, l_lst, b_tt, b_tl, b_lt, b_ll, b_ii, b_repr2, b_all2, b_any2, rv_t, ty_1, ty_2, ty_3, ty_4, ty_5, ty_6, ty_7, ty_8, ty_9, ty_10, ty_11, ty_12, ty_13, ty_14, ty_15, ty_16, ty_17, ty_18, ty_19, ty_20, ty_21, ty_22, ty_23, ty_24, ty_25, ty_26, ty_27, ty_28, *]
      | cons c r =>
        have hat : ixF (.str (tx L)) (.int ((p.length + w.length : Nat) : Int)) = some (.str ⟨#[c]⟩) := ix_mid (p := p ++ w) (q := r) (by rw [← hL]; simp) (by simp) (by omega)
        have hs := isin_sign c
        rw [hq c r rfl] at hs
        have z' : ((p.length + w.length : Nat) : Int) < ((tx L).length : Int) := by rw [tx_len]; simp at hLl; omega
        generalize ((p.length + w.length : Nat) : Int) = i at *
        clear hL hLl hw hq hk hi
        refine useB_ok (x := .val (.d (.bl false))) ?_ rfl
        simp only [evSs, evS, evE, evIts, evAs, evIt, evJs, Res.bind, Res.fl, Res.of, Fl.then, use, useB, item, take, slot_z, slot_s, nxO, stor, assignTg, W.frz, callA, bindA, bkn, bkc, useAll, C.d, E.isNone, partB, Option.bind, Option.map, Has.lk, Con.gl, Exn.ex, List.length_cons, List.length_nil, List.set_cons_zero, List.set_cons_succ, List.contains_cons, List.contains_nil, beq_iff_eq, Nat.reduceAdd, Nat.reduceLeDiff, Nat.reduceEqDiff, Nat.reduceBEq, Nat.reduceBNe, Int.reduceNeg, if_true, if_false, or_self, or_false, false_or, or_true, true_or, and_self, and_true, true_and, Bool.or_false, Bool.or_true, Bool.false_or, Bool.true_or, Bool.and_true, Bool.true_and, Bool.and_false, Bool.false_and, Bool.false_eq_true, Bool.not_true, Bool.not_false, decide_eq_true_eq, decide_true, decide_false, not_true_eq_false, not_false_eq_true, reduceIte, reduceCtorEq, Bool.not_eq_true', decide_eq_false_iff_not, List.cons_append, List.nil_append, List.append_nil, Nat.zero_le, Int.reduceEq, Int.reduceLT, Int.reduceLE, eq_self, cast0, cast1, cast2, cast3, cast4, cast5, cast6, cast7, cast8, cast9, lit_line, l_str, m_app, m_ext, o_adds, o_addl, o_addt, rv_s, binAdd, binSub, c_lt, c_le, c_gt, c_ge, isN_eq, notN_eq, nin_eq, in_eq, eq_eq2, ne_eq2, eqF_s, eqF_i, xdd, xtt, xll, at0, at1, at2, nn_non, nn_t, nn_l, nn_s, nn_i, nn_b, nn_c, nn_x, l_tup, l_lst, b_tt, b_tl, b_lt, b_ll, b_ii, b_repr2, b_all2, b_any2, rv_t, ty_1, ty_2, ty_3, ty_4, ty_5, ty_6, ty_7, ty_8, ty_9, ty_10, ty_11, ty_12, ty_13, ty_14, ty_15, ty_16, ty_17, ty_18, ty_19, ty_20, ty_21, ty_22, ty_23, ty_24, ty_25, ty_26, ty_27, ty_28, *])
    w.length loopMost [some (.d (.str (tx L))), some (.d (.int a)), some (.d (.int a))] (by unfold loopMost; omega) ⟨0, a, by omega, by simp [ha], rfl⟩
  rw [r] at e
  exact e
variable [Con P "LONGEST_NAME" (.int 8)] [Has P "is_name" Rd.f_is_name] [Has P "read_name" Rd.f_read_name]
/-- what a reading at a place gives -/
def resA (a : Int) (l : List Nat) : Option (Tr × List Nat) → D
  | some (t, r) => .tup [t.D, .int (a + ((l.length - r.length : Nat) : Int))]
  | none => .tup [.non, .int a]
theorem read_name_d {n : Nat} {p l L : List Nat} {a : Int} (hL : L = p ++ l) (ha : a = (p.length : Int)) (hl : L.length ≤ 50000) : Ret P (n + 2) "read_name" [.d (.str (tx L)), .d (.int a)] (.d (resA a l (rdName l))) := by
  have hw : ∀ c ∈ l.takeWhile letB, letB c = true := fun c hc => mem_takeW hc
  have hq : ∀ c r, l.dropWhile letB = c :: r → letB c = false := fun c r e => by
    have h := List.head?_dropWhile_not letB l
    rw [e] at h
    simpa using h
  have el : l = l.takeWhile letB ++ l.dropWhile letB := (List.takeWhile_append_dropWhile).symm
  have ell : l.length = (l.takeWhile letB).length + (l.dropWhile letB).length := by rw [← List.length_append, ← el]
  have hLl : L.length = p.length + l.length := by rw [hL, List.length_append]
  have hlp := name_loop (P := P) (cf := callF P (n + 1)) (p := p) ha hw hq (by rw [← el, ← hL]; exact hl)
  rw [← el, ← hL] at hlp
  have hc : slcF (.str (tx L)) (some a) (some ((p.length + (l.takeWhile letB).length : Nat) : Int)) = some (.d (.str (tx (l.takeWhile letB)))) := slc_mid (q := l.dropWhile letB) (by rw [← el, hL]) ha rfl (by omega)
  obtain ⟨o1, h1⟩ := is_name_s (P := P) (n := n) (cs := l.takeWhile letB) (by omega)
  unfold rdName
  have efin : a + ((l.length - (l.dropWhile letB).length : Nat) : Int) = ((p.length + (l.takeWhile letB).length : Nat) : Int) := by omega
  generalize l.takeWhile letB = w at *
  generalize l.dropWhile letB = q at *
  generalize hi : ((p.length + w.length : Nat) : Int) = i at *
  refine ret_x Has.lk rfl ?_
  show ∃ v e, evSs P (callF P (n + 1)) [0, 1] Rd.b_read_name [some (.d (.str (tx L))), some (.d (.int a)), none] = .rt v e ∧ v = _
  unfold Rd.b_read_name
  cases hn : nmB w with
  | true =>
    rw [hn] at h1
    clear hw hq el ell hl hLl hL ha
    simp only [evSs, evS, evE, evIts, evAs, evIt, evJs, Res.bind, Res.fl, Res.of, Fl.then, use, useB, item, take, slot_z, slot_s, nxO, stor, assignTg, W.frz, callA, bindA, bkn, bkc, useAll, C.d, E.isNone, partB, Option.bind, Option.map, Has.lk, Con.gl, Exn.ex, List.length_cons, List.length_nil, List.set_cons_zero, List.set_cons_succ, List.contains_cons, List.contains_nil, beq_iff_eq, Nat.reduceAdd, Nat.reduceLeDiff, Nat.reduceEqDiff, Nat.reduceBEq, Nat.reduceBNe, Int.reduceNeg, if_true, if_false, or_self, or_false, false_or, or_true, true_or, and_self, and_true, true_and, Bool.or_false, Bool.or_true, Bool.false_or, Bool.true_or, Bool.and_true, Bool.true_and, Bool.and_false, Bool.false_and, Bool.false_eq_true, Bool.not_true, Bool.not_false, decide_eq_true_eq, decide_true, decide_false, not_true_eq_false, not_false_eq_true, reduceIte, reduceCtorEq, Bool.not_eq_true', decide_eq_false_iff_not, List.cons_append, List.nil_append, List.append_nil, Nat.zero_le, Int.reduceEq, Int.reduceLT, Int.reduceLE, eq_self, cast0, cast1, cast2, cast3, cast4, cast5, cast6, cast7, cast8, cast9, lit_line, l_str, m_app, m_ext, o_adds, o_addl, o_addt, rv_s, binAdd, binSub, c_lt, c_le, c_gt, c_ge, isN_eq, notN_eq, nin_eq, in_eq, eq_eq2, ne_eq2, eqF_s, eqF_i, xdd, xtt, xll, at0, at1, at2, nn_non, nn_t, nn_l, nn_s, nn_i, nn_b, nn_c, nn_x, l_tup, l_lst, b_tt, b_tl, b_lt, b_ll, b_ii, b_repr2, b_all2, b_any2, rv_t, ty_1, ty_2, ty_3, ty_4, ty_5, ty_6, ty_7, ty_8, ty_9, ty_10, ty_11, ty_12, ty_13, ty_14, ty_15, ty_16, ty_17, ty_18, ty_19, ty_20, ty_21, ty_22, ty_23, ty_24, ty_25, ty_26, ty_27, ty_28, *]
    refine ⟨_, _, rfl, ?_⟩
    simp only [if_true, resA, efin]
    rfl
  | false =>
    rw [hn] at h1
    clear hw hq el ell hl hLl hL ha
    simp only [evSs, evS, evE, evIts, evAs, evIt, evJs, Res.bind, Res.fl, Res.of, Fl.then, use, useB, item, take, slot_z, slot_s, nxO, stor, assignTg, W.frz, callA, bindA, bkn, bkc, useAll, C.d, E.isNone, partB, Option.bind, Option.map, Has.lk, Con.gl, Exn.ex, List.length_cons, List.length_nil, List.set_cons_zero, List.set_cons_succ, List.contains_cons, List.contains_nil, beq_iff_eq, Nat.reduceAdd, Nat.reduceLeDiff, Nat.reduceEqDiff, Nat.reduceBEq, Nat.reduceBNe, Int.reduceNeg, if_true, if_false, or_self, or_false, false_or, or_true, true_or, and_self, and_true, true_and, Bool.or_false, Bool.or_true, Bool.false_or, Bool.true_or, Bool.and_true, Bool.true_and, Bool.and_false, Bool.false_and, Bool.false_eq_true, Bool.not_true, Bool.not_false, decide_eq_true_eq, decide_true, decide_false, not_true_eq_false, not_false_eq_true, reduceIte, reduceCtorEq, Bool.not_eq_true', decide_eq_false_iff_not, List.cons_append, List.nil_append, List.append_nil, Nat.zero_le, Int.reduceEq, Int.reduceLT, Int.reduceLE, eq_self, cast0, cast1, cast2, cast3, cast4, cast5, cast6, cast7, cast8, cast9, lit_line, l_str, m_app, m_ext, o_adds, o_addl, o_addt, rv_s, binAdd, binSub, c_lt, c_le, c_gt, c_ge, isN_eq, notN_eq, nin_eq, in_eq, eq_eq2, ne_eq2, eqF_s, eqF_i, xdd, xtt, xll, at0, at1, at2, nn_non, nn_t, nn_l, nn_s, nn_i, nn_b, nn_c, nn_x, l_tup, l_lst, b_tt, b_tl, b_lt, b_ll, b_ii, b_repr2, b_all2, b_any2, rv_t, ty_1, ty_2, ty_3, ty_4, ty_5, ty_6, ty_7, ty_8, ty_9, ty_10, ty_11, ty_12, ty_13, ty_14, ty_15, ty_16, ty_17, ty_18, ty_19, ty_20, ty_21, ty_22, ty_23, ty_24, ty_25, ty_26, ty_27, ty_28, *]
    refine ⟨_, _, rfl, ?_⟩
    simp [resA]
end
end PyEv

set_option maxRecDepth 100000
set_option maxHeartbeats 4000000
/-! PyRdD: the reader. -/
namespace PyEv
open PySem
abbrev openedD : D := .dct ["(", "["] [.str "right", .str "left"]
abbrev bracketsD : D := .dct ["right", "left"] [.str "()", .str "[]"]
section
variable {P : Prog} {n : Nat}
variable [Con P "OPENED" (.dct ["(", "["] [.str "right", .str "left"])] [Con P "MOST_ENDS" (.int 6)] [Con P "BLANK" (.str " ")] [Con P "BRACKETS" (.dct ["right", "left"] [.str "()", .str "[]"])] [Has P "read_tree" Rd.f_read_tree] [Has P "read_name" Rd.f_read_name]
variable {T z z2 z3 z4 s b : Str} {a d i j : Int} {x y : D} {o o1 o2 : PyEv.Env}
theorem rt_name (hs : slcF (.str T) (some a) (some (a + 1)) = some (.d (.str z))) (hin : isinF (.str z) (.dct ["(", "["] [.str "right", .str "left"]) = some false) (hr : callF P n "read_name" [.d (.str T), .d (.int a)] = .ok (.d x) o) : Ret P (n + 1) "read_tree" [.d (.str T), .d (.int a), .d (.int d)] (.d x) := by
  refine ret_x Has.lk rfl ?_
  show ∃ v e, evSs P (callF P n) [0, 1, 2] Rd.b_read_tree [some (.d (.str T)), some (.d (.int a)), some (.d (.int d)), none, none, none, none, none] = .rt v e ∧ v = _
  unfold Rd.b_read_tree
  simp only [evSs, evS, evE, evIts, evAs, evIt, evJs, Res.bind, Res.fl, Res.of, Fl.then, use, useB, item, take, slot_z, slot_s, nxO, stor, assignTg, W.frz, callA, bindA, bkn, bkc, useAll, C.d, E.isNone, partB, Option.bind, Option.map, Has.lk, Con.gl, Exn.ex, List.length_cons, List.length_nil, List.set_cons_zero, List.set_cons_succ, List.contains_cons, List.contains_nil, beq_iff_eq, Nat.reduceAdd, Nat.reduceLeDiff, Nat.reduceEqDiff, Nat.reduceBEq, Nat.reduceBNe, Int.reduceNeg, if_true, if_false, or_self, or_false, false_or, or_true, true_or, and_self, and_true, true_and, Bool.or_false, Bool.or_true, Bool.false_or, Bool.true_or, Bool.and_true, Bool.true_and, Bool.and_false, Bool.false_and, Bool.false_eq_true, Bool.not_true, Bool.not_false, decide_eq_true_eq, decide_true, decide_false, not_true_eq_false, not_false_eq_true, reduceIte, reduceCtorEq, Bool.not_eq_true', decide_eq_false_iff_not, List.cons_append, List.nil_append, List.append_nil, Nat.zero_le, Int.reduceEq, Int.reduceLT, Int.reduceLE, eq_self, cast0, cast1, cast2, cast3, cast4, cast5, cast6, cast7, cast8, cast9, lit_line, l_str, m_app, m_ext, o_adds, o_addl, o_addt, rv_s, binAdd, binSub, c_lt, c_le, c_gt, c_ge, isN_eq, notN_eq, nin_eq, in_eq, eq_eq2, ne_eq2, eqF_s, eqF_i, xdd, xtt, xll, at0, at1, at2, nn_non, nn_t, nn_l, nn_s, nn_i, nn_b, nn_c, nn_x, l_tup, l_lst, b_tt, b_tl, b_lt, b_ll, b_ii, b_repr2, b_all2, b_any2, rv_t, ty_1, ty_2, ty_3, ty_4, ty_5, ty_6, ty_7, ty_8, ty_9, ty_10, ty_11, ty_12, ty_13, ty_14, ty_15, ty_16, ty_17, ty_18, ty_19, ty_20, ty_21, ty_22, ty_23, ty_24, ty_25, ty_26, ty_27, ty_28, *]
  refine ⟨_, _, rfl, ?_⟩
  rfl
theorem rt_six (hs : slcF (.str T) (some a) (some (a + 1)) = some (.d (.str z))) (hin : isinF (.str z) (.dct ["(", "["] [.str "right", .str "left"]) = some true) : Ret P (n + 1) "read_tree" [.d (.str T), .d (.int a), .d (.int 6)] (.d (.tup [.non, .int a])) := by
  refine ret_x Has.lk rfl ?_
  show ∃ v e, evSs P (callF P n) [0, 1, 2] Rd.b_read_tree [some (.d (.str T)), some (.d (.int a)), some (.d (.int 6)), none, none, none, none, none] = .rt v e ∧ v = _
  unfold Rd.b_read_tree
  simp only [evSs, evS, evE, evIts, evAs, evIt, evJs, Res.bind, Res.fl, Res.of, Fl.then, use, useB, item, take, slot_z, slot_s, nxO, stor, assignTg, W.frz, callA, bindA, bkn, bkc, useAll, C.d, E.isNone, partB, Option.bind, Option.map, Has.lk, Con.gl, Exn.ex, List.length_cons, List.length_nil, List.set_cons_zero, List.set_cons_succ, List.contains_cons, List.contains_nil, beq_iff_eq, Nat.reduceAdd, Nat.reduceLeDiff, Nat.reduceEqDiff, Nat.reduceBEq, Nat.reduceBNe, Int.reduceNeg, if_true, if_false, or_self, or_false, false_or, or_true, true_or, and_self, and_true, true_and, Bool.or_false, Bool.or_true, Bool.false_or, Bool.true_or, Bool.and_true, Bool.true_and, Bool.and_false, Bool.false_and, Bool.false_eq_true, Bool.not_true, Bool.not_false, decide_eq_true_eq, decide_true, decide_false, not_true_eq_false, not_false_eq_true, reduceIte, reduceCtorEq, Bool.not_eq_true', decide_eq_false_iff_not, List.cons_append, List.nil_append, List.append_nil, Nat.zero_le, Int.reduceEq, Int.reduceLT, Int.reduceLE, eq_self, cast0, cast1, cast2, cast3, cast4, cast5, cast6, cast7, cast8, cast9, lit_line, l_str, m_app, m_ext, o_adds, o_addl, o_addt, rv_s, binAdd, binSub, c_lt, c_le, c_gt, c_ge, isN_eq, notN_eq, nin_eq, in_eq, eq_eq2, ne_eq2, eqF_s, eqF_i, xdd, xtt, xll, at0, at1, at2, nn_non, nn_t, nn_l, nn_s, nn_i, nn_b, nn_c, nn_x, l_tup, l_lst, b_tt, b_tl, b_lt, b_ll, b_ii, b_repr2, b_all2, b_any2, rv_t, ty_1, ty_2, ty_3, ty_4, ty_5, ty_6, ty_7, ty_8, ty_9, ty_10, ty_11, ty_12, ty_13, ty_14, ty_15, ty_16, ty_17, ty_18, ty_19, ty_20, ty_21, ty_22, ty_23, ty_24, ty_25, ty_26, ty_27, ty_28, *]
  refine ⟨_, _, rfl, ?_⟩
  rfl
theorem rt_no1 (hd : ¬ d = 6) (hs : slcF (.str T) (some a) (some (a + 1)) = some (.d (.str z))) (hin : isinF (.str z) (.dct ["(", "["] [.str "right", .str "left"]) = some true) (hk : (([("(" : Str), "["]).zip [D.str "right", D.str "left"]).lookup z = some (.str s))
    (h1 : callF P n "read_tree" [.d (.str T), .d (.int (a + 1)), .d (.int (d + 1))] = .ok (.d (.tup [.non, .int i])) o1) : Ret P (n + 1) "read_tree" [.d (.str T), .d (.int a), .d (.int d)] (.d (.tup [.non, .int a])) := by
  refine ret_x Has.lk rfl ?_
  show ∃ v e, evSs P (callF P n) [0, 1, 2] Rd.b_read_tree [some (.d (.str T)), some (.d (.int a)), some (.d (.int d)), none, none, none, none, none] = .rt v e ∧ v = _
  unfold Rd.b_read_tree
  simp only [evSs, evS, evE, evIts, evAs, evIt, evJs, Res.bind, Res.fl, Res.of, Fl.then, use, useB, item, take, slot_z, slot_s, nxO, stor, assignTg, W.frz, callA, bindA, bkn, bkc, useAll, C.d, E.isNone, partB, Option.bind, Option.map, Has.lk, Con.gl, Exn.ex, List.length_cons, List.length_nil, List.set_cons_zero, List.set_cons_succ, List.contains_cons, List.contains_nil, beq_iff_eq, Nat.reduceAdd, Nat.reduceLeDiff, Nat.reduceEqDiff, Nat.reduceBEq, Nat.reduceBNe, Int.reduceNeg, if_true, if_false, or_self, or_false, false_or, or_true, true_or, and_self, and_true, true_and, Bool.or_false, Bool.or_true, Bool.false_or, Bool.true_or, Bool.and_true, Bool.true_and, Bool.and_false, Bool.false_and, Bool.false_eq_true, Bool.not_true, Bool.not_false, decide_eq_true_eq, decide_true, decide_false, not_true_eq_false, not_false_eq_true, reduceIte, reduceCtorEq, Bool.not_eq_true', decide_eq_false_iff_not, List.cons_append, List.nil_append, List.append_nil, Nat.zero_le, Int.reduceEq, Int.reduceLT, Int.reduceLE, eq_self, cast0, cast1, cast2, cast3, cast4, cast5, cast6, cast7, cast8, cast9, lit_line, l_str, m_app, m_ext, o_adds, o_addl, o_addt, rv_s, binAdd, binSub, c_lt, c_le, c_gt, c_ge, isN_eq, notN_eq, nin_eq, in_eq, eq_eq2, ne_eq2, eqF_s, eqF_i, xdd, xtt, xll, at0, at1, at2, nn_non, nn_t, nn_l, nn_s, nn_i, nn_b, nn_c, nn_x, l_tup, l_lst, b_tt, b_tl, b_lt, b_ll, b_ii, b_repr2, b_all2, b_any2, rv_t, ty_1, ty_2, ty_3, ty_4, ty_5, ty_6, ty_7, ty_8, ty_9, ty_10, ty_11, ty_12, ty_13, ty_14, ty_15, ty_16, ty_17, ty_18, ty_19, ty_20, ty_21, ty_22, ty_23, ty_24, ty_25, ty_26, ty_27, ty_28, *]
  refine ⟨_, _, rfl, ?_⟩
  rfl
theorem rt_no2 (hd : ¬ d = 6) (hs : slcF (.str T) (some a) (some (a + 1)) = some (.d (.str z))) (hin : isinF (.str z) (.dct ["(", "["] [.str "right", .str "left"]) = some true) (hk : (([("(" : Str), "["]).zip [D.str "right", D.str "left"]).lookup z = some (.str s))
    (h1 : callF P n "read_tree" [.d (.str T), .d (.int (a + 1)), .d (.int (d + 1))] = .ok (.d (.tup [x, .int i])) o1) (hx : x.isNon = false) (hs2 : slcF (.str T) (some i) (some (i + 1)) = some (.d (.str z2))) (hz : ¬ z2 = " ") : Ret P (n + 1) "read_tree" [.d (.str T), .d (.int a), .d (.int d)] (.d (.tup [.non, .int a])) := by
  refine ret_x Has.lk rfl ?_
  show ∃ v e, evSs P (callF P n) [0, 1, 2] Rd.b_read_tree [some (.d (.str T)), some (.d (.int a)), some (.d (.int d)), none, none, none, none, none] = .rt v e ∧ v = _
  unfold Rd.b_read_tree
  simp only [evSs, evS, evE, evIts, evAs, evIt, evJs, Res.bind, Res.fl, Res.of, Fl.then, use, useB, item, take, slot_z, slot_s, nxO, stor, assignTg, W.frz, callA, bindA, bkn, bkc, useAll, C.d, E.isNone, partB, Option.bind, Option.map, Has.lk, Con.gl, Exn.ex, List.length_cons, List.length_nil, List.set_cons_zero, List.set_cons_succ, List.contains_cons, List.contains_nil, beq_iff_eq, Nat.reduceAdd, Nat.reduceLeDiff, Nat.reduceEqDiff, Nat.reduceBEq, Nat.reduceBNe, Int.reduceNeg, if_true, if_false, or_self, or_false, false_or, or_true, true_or, and_self, and_true, true_and, Bool.or_false, Bool.or_true, Bool.false_or, Bool.true_or, Bool.and_true, Bool.true_and, Bool.and_false, Bool.false_and, Bool.false_eq_true, Bool.not_true, Bool.not_false, decide_eq_true_eq, decide_true, decide_false, not_true_eq_false, not_false_eq_true, reduceIte, reduceCtorEq, Bool.not_eq_true', decide_eq_false_iff_not, List.cons_append, List.nil_append, List.append_nil, Nat.zero_le, Int.reduceEq, Int.reduceLT, Int.reduceLE, eq_self, cast0, cast1, cast2, cast3, cast4, cast5, cast6, cast7, cast8, cast9, lit_line, l_str, m_app, m_ext, o_adds, o_addl, o_addt, rv_s, binAdd, binSub, c_lt, c_le, c_gt, c_ge, isN_eq, notN_eq, nin_eq, in_eq, eq_eq2, ne_eq2, eqF_s, eqF_i, xdd, xtt, xll, at0, at1, at2, nn_non, nn_t, nn_l, nn_s, nn_i, nn_b, nn_c, nn_x, l_tup, l_lst, b_tt, b_tl, b_lt, b_ll, b_ii, b_repr2, b_all2, b_any2, rv_t, ty_1, ty_2, ty_3, ty_4, ty_5, ty_6, ty_7, ty_8, ty_9, ty_10, ty_11, ty_12, ty_13, ty_14, ty_15, ty_16, ty_17, ty_18, ty_19, ty_20, ty_21, ty_22, ty_23, ty_24, ty_25, ty_26, ty_27, ty_28, *]
  refine ⟨_, _, rfl, ?_⟩
  rfl
theorem rt_no3 (hd : ¬ d = 6) (hs : slcF (.str T) (some a) (some (a + 1)) = some (.d (.str z))) (hin : isinF (.str z) (.dct ["(", "["] [.str "right", .str "left"]) = some true) (hk : (([("(" : Str), "["]).zip [D.str "right", D.str "left"]).lookup z = some (.str s))
    (h1 : callF P n "read_tree" [.d (.str T), .d (.int (a + 1)), .d (.int (d + 1))] = .ok (.d (.tup [x, .int i])) o1) (hx : x.isNon = false) (hs2 : slcF (.str T) (some i) (some (i + 1)) = some (.d (.str " ")))
    (h2 : callF P n "read_tree" [.d (.str T), .d (.int (i + 1)), .d (.int (d + 1))] = .ok (.d (.tup [.non, .int j])) o2) : Ret P (n + 1) "read_tree" [.d (.str T), .d (.int a), .d (.int d)] (.d (.tup [.non, .int a])) := by
  refine ret_x Has.lk rfl ?_
  show ∃ v e, evSs P (callF P n) [0, 1, 2] Rd.b_read_tree [some (.d (.str T)), some (.d (.int a)), some (.d (.int d)), none, none, none, none, none] = .rt v e ∧ v = _
  unfold Rd.b_read_tree
  simp only [evSs, evS, evE, evIts, evAs, evIt, evJs, Res.bind, Res.fl, Res.of, Fl.then, use, useB, item, take, slot_z, slot_s, nxO, stor, assignTg, W.frz, callA, bindA, bkn, bkc, useAll, C.d, E.isNone, partB, Option.bind, Option.map, Has.lk, Con.gl, Exn.ex, List.length_cons, List.length_nil, List.set_cons_zero, List.set_cons_succ, List.contains_cons, List.contains_nil, beq_iff_eq, Nat.reduceAdd, Nat.reduceLeDiff, Nat.reduceEqDiff, Nat.reduceBEq, Nat.reduceBNe, Int.reduceNeg, if_true, if_false, or_self, or_false, false_or, or_true, true_or, and_self, and_true, true_and, Bool.or_false, Bool.or_true, Bool.false_or, Bool.true_or, Bool.and_true, Bool.true_and, Bool.and_false, Bool.false_and, Bool.false_eq_true, Bool.not_true, Bool.not_false, decide_eq_true_eq, decide_true, decide_false, not_true_eq_false, not_false_eq_true, reduceIte, reduceCtorEq, Bool.not_eq_true', decide_eq_false_iff_not, List.cons_append, List.nil_append, List.append_nil, Nat.zero_le, Int.reduceEq, Int.reduceLT, Int.reduceLE, eq_self, cast0, cast1, cast2, cast3, cast4, cast5, cast6, cast7, cast8, cast9, lit_line, l_str, m_app, m_ext, o_adds, o_addl, o_addt, rv_s, binAdd, binSub, c_lt, c_le, c_gt, c_ge, isN_eq, notN_eq, nin_eq, in_eq, eq_eq2, ne_eq2, eqF_s, eqF_i, xdd, xtt, xll, at0, at1, at2, nn_non, nn_t, nn_l, nn_s, nn_i, nn_b, nn_c, nn_x, l_tup, l_lst, b_tt, b_tl, b_lt, b_ll, b_ii, b_repr2, b_all2, b_any2, rv_t, ty_1, ty_2, ty_3, ty_4, ty_5, ty_6, ty_7, ty_8, ty_9, ty_10, ty_11, ty_12, ty_13, ty_14, ty_15, ty_16, ty_17, ty_18, ty_19, ty_20, ty_21, ty_22, ty_23, ty_24, ty_25, ty_26, ty_27, ty_28, *]
  refine ⟨_, _, rfl, ?_⟩
  rfl
theorem rt_no4 (hd : ¬ d = 6) (hs : slcF (.str T) (some a) (some (a + 1)) = some (.d (.str z))) (hin : isinF (.str z) (.dct ["(", "["] [.str "right", .str "left"]) = some true) (hk : (([("(" : Str), "["]).zip [D.str "right", D.str "left"]).lookup z = some (.str s))
    (h1 : callF P n "read_tree" [.d (.str T), .d (.int (a + 1)), .d (.int (d + 1))] = .ok (.d (.tup [x, .int i])) o1) (hx : x.isNon = false) (hs2 : slcF (.str T) (some i) (some (i + 1)) = some (.d (.str " ")))
    (h2 : callF P n "read_tree" [.d (.str T), .d (.int (i + 1)), .d (.int (d + 1))] = .ok (.d (.tup [y, .int j])) o2) (hy : y.isNon = false) (hs3 : slcF (.str T) (some j) (some (j + 1)) = some (.d (.str z3)))
    (hb : (([("right" : Str), "left"]).zip [D.str "()", D.str "[]"]).lookup s = some (.str b)) (hb2 : ixF (.str b) (.int 1) = some (.str z4)) (hz : ¬ z3 = z4) : Ret P (n + 1) "read_tree" [.d (.str T), .d (.int a), .d (.int d)] (.d (.tup [.non, .int a])) := by
  refine ret_x Has.lk rfl ?_
  show ∃ v e, evSs P (callF P n) [0, 1, 2] Rd.b_read_tree [some (.d (.str T)), some (.d (.int a)), some (.d (.int d)), none, none, none, none, none] = .rt v e ∧ v = _
  unfold Rd.b_read_tree
  simp only [evSs, evS, evE, evIts, evAs, evIt, evJs, Res.bind, Res.fl, Res.of, Fl.then, use, useB, item, take, slot_z, slot_s, nxO, stor, assignTg, W.frz, callA, bindA, bkn, bkc, useAll, C.d, E.isNone, partB, Option.bind, Option.map, Has.lk, Con.gl, Exn.ex, List.length_cons, List.length_nil, List.set_cons_zero, List.set_cons_succ, List.contains_cons, List.contains_nil, beq_iff_eq, Nat.reduceAdd, Nat.reduceLeDiff, Nat.reduceEqDiff, Nat.reduceBEq, Nat.reduceBNe, Int.reduceNeg, if_true, if_false, or_self, or_false, false_or, or_true, true_or, and_self, and_true, true_and, Bool.or_false, Bool.or_true, Bool.false_or, Bool.true_or, Bool.and_true, Bool.true_and, Bool.and_false, Bool.false_and, Bool.false_eq_true, Bool.not_true, Bool.not_false, decide_eq_true_eq, decide_true, decide_false, not_true_eq_false, not_false_eq_true, reduceIte, reduceCtorEq, Bool.not_eq_true', decide_eq_false_iff_not, List.cons_append, List.nil_append, List.append_nil, Nat.zero_le, Int.reduceEq, Int.reduceLT, Int.reduceLE, eq_self, cast0, cast1, cast2, cast3, cast4, cast5, cast6, cast7, cast8, cast9, lit_line, l_str, m_app, m_ext, o_adds, o_addl, o_addt, rv_s, binAdd, binSub, c_lt, c_le, c_gt, c_ge, isN_eq, notN_eq, nin_eq, in_eq, eq_eq2, ne_eq2, eqF_s, eqF_i, xdd, xtt, xll, at0, at1, at2, nn_non, nn_t, nn_l, nn_s, nn_i, nn_b, nn_c, nn_x, l_tup, l_lst, b_tt, b_tl, b_lt, b_ll, b_ii, b_repr2, b_all2, b_any2, rv_t, ty_1, ty_2, ty_3, ty_4, ty_5, ty_6, ty_7, ty_8, ty_9, ty_10, ty_11, ty_12, ty_13, ty_14, ty_15, ty_16, ty_17, ty_18, ty_19, ty_20, ty_21, ty_22, ty_23, ty_24, ty_25, ty_26, ty_27, ty_28, *]
  refine ⟨_, _, rfl, ?_⟩
  rfl
theorem rt_yes (hd : ¬ d = 6) (hs : slcF (.str T) (some a) (some (a + 1)) = some (.d (.str z))) (hin : isinF (.str z) (.dct ["(", "["] [.str "right", .str "left"]) = some true) (hk : (([("(" : Str), "["]).zip [D.str "right", D.str "left"]).lookup z = some (.str s))
    (h1 : callF P n "read_tree" [.d (.str T), .d (.int (a + 1)), .d (.int (d + 1))] = .ok (.d (.tup [x, .int i])) o1) (hx : x.isNon = false) (hs2 : slcF (.str T) (some i) (some (i + 1)) = some (.d (.str " ")))
    (h2 : callF P n "read_tree" [.d (.str T), .d (.int (i + 1)), .d (.int (d + 1))] = .ok (.d (.tup [y, .int j])) o2) (hy : y.isNon = false) (hs3 : slcF (.str T) (some j) (some (j + 1)) = some (.d (.str z3)))
    (hb : (([("right" : Str), "left"]).zip [D.str "()", D.str "[]"]).lookup s = some (.str b)) (hb2 : ixF (.str b) (.int 1) = some (.str z3)) : Ret P (n + 1) "read_tree" [.d (.str T), .d (.int a), .d (.int d)] (.d (.tup [.tup [.str s, x, y], .int (j + 1)])) := by
  refine ret_x Has.lk rfl ?_
  show ∃ v e, evSs P (callF P n) [0, 1, 2] Rd.b_read_tree [some (.d (.str T)), some (.d (.int a)), some (.d (.int d)), none, none, none, none, none] = .rt v e ∧ v = _
  unfold Rd.b_read_tree
  simp only [evSs, evS, evE, evIts, evAs, evIt, evJs, Res.bind, Res.fl, Res.of, Fl.then, use, useB, item, take, slot_z, slot_s, nxO, stor, assignTg, W.frz, callA, bindA, bkn, bkc, useAll, C.d, E.isNone, partB, Option.bind, Option.map, Has.lk, Con.gl, Exn.ex, List.length_cons, List.length_nil, List.set_cons_zero, List.set_cons_succ, List.contains_cons, List.contains_nil, beq_iff_eq, Nat.reduceAdd, Nat.reduceLeDiff, Nat.reduceEqDiff, Nat.reduceBEq, Nat.reduceBNe, Int.reduceNeg, if_true, if_false, or_self, or_false, false_or, or_true, true_or, and_self, and_true, true_and, Bool.or_false, Bool.or_true, Bool.false_or, Bool.true_or, Bool.and_true, Bool.true_and, Bool.and_false, Bool.false_and, Bool.false_eq_true, Bool.not_true, Bool.not_false, decide_eq_true_eq, decide_true, decide_false, not_true_eq_false, not_false_eq_true, reduceIte, reduceCtorEq, Bool.not_eq_true', decide_eq_false_iff_not, List.cons_append, List.nil_append, List.append_nil, Nat.zero_le, Int.reduceEq, Int.reduceLT, Int.reduceLE, eq_self, cast0, cast1, cast2, cast3, cast4, cast5, cast6, cast7, cast8, cast9, lit_line, l_str, m_app, m_ext, o_adds, o_addl, o_addt, rv_s, binAdd, binSub, c_lt, c_le, c_gt, c_ge, isN_eq, notN_eq, nin_eq, in_eq, eq_eq2, ne_eq2, eqF_s, eqF_i, xdd, xtt, xll, at0, at1, at2, nn_non, nn_t, nn_l, nn_s, nn_i, nn_b, nn_c, nn_x, l_tup, l_lst, b_tt, b_tl, b_lt, b_ll, b_ii, b_repr2, b_all2, b_any2, rv_t, ty_1, ty_2, ty_3, ty_4, ty_5, ty_6, ty_7, ty_8, ty_9, ty_10, ty_11, ty_12, ty_13, ty_14, ty_15, ty_16, ty_17, ty_18, ty_19, ty_20, ty_21, ty_22, ty_23, ty_24, ty_25, ty_26, ty_27, ty_28, *]
  refine ⟨_, _, rfl, ?_⟩
  rfl
theorem tx1 {c e : Nat} : (tx [c] = tx [e]) = (c = e) := by rw [tx_inj]; simp
theorem opened_in (c : Nat) : isinF (.str (tx [c])) (.dct ["(", "["] [.str "right", .str "left"]) = some (opB c) := by
  show some _ = some _
  congr 1
  have e1 : ("(" : Str) = tx [40] := rfl
  have e2 : ("[" : Str) = tx [91] := rfl
  rw [e1, e2]
  simp [tx1, opB, Bool.beq_eq_decide_eq]
theorem opened_nil : isinF (.str (tx [])) (.dct ["(", "["] [.str "right", .str "left"]) = some false := by decide
theorem opened_at {q : Bool} : (([("(" : Str), "["]).zip [D.str "right", D.str "left"]).lookup (tx [op q]) = some (.str (side q)) := by cases q <;> rfl
theorem br_at {q : Bool} : (([("right" : Str), "left"]).zip [D.str "()", D.str "[]"]).lookup (side q) = some (.str (tx [op q, cl q])) := by cases q <;> rfl
theorem br_1 {q : Bool} : ixF (.str (tx [op q, cl q])) (.int 1) = some (.str (tx [cl q])) := rfl
variable [Con P "LETTERS" (.str "abcdefghijklmnopqrstuvwxyz")] [Con P "LONGEST_NAME" (.int 8)] [Has P "is_name" Rd.f_is_name]
theorem rdName_nil : rdName [] = none := rfl
theorem resA_len {l r : List Nat} {t : Tr} (h : l = t.sp ++ r) : l.length - r.length = t.sp.length := by rw [h, List.length_append]; omega
theorem read_tree_d : ∀ (k : Nat) {p l L : List Nat} {a d : Int}, k ≤ 6 → L = p ++ l → a = (p.length : Int) → d = 6 - (k : Int) → L.length ≤ 50000 → Ret P (n + k + 3) "read_tree" [.d (.str (tx L)), .d (.int a), .d (.int d)] (.d (resA a l (rdTree k l))) := by
  intro k
  induction k with
  | zero =>
    intro p l L a d hk hL ha hd hl
    have hs := slc_one hL ha (by omega)
    cases l with
    | nil =>
      obtain ⟨o, h⟩ := read_name_d (P := P) (n := n) hL ha hl
      exact rt_name hs opened_nil h
    | cons c r =>
      have hin := opened_in c
      unfold rdTree
      cases hc : opB c with
      | false =>
        rw [hc] at hin
        obtain ⟨o, h⟩ := read_name_d (P := P) (n := n) hL ha hl
        exact rt_name hs hin h
      | true =>
        rw [hc] at hin
        have : d = 6 := by omega
        subst this
        exact rt_six hs hin
  | succ k ih =>
    intro p l L a d hk hL ha hd hl
    have hs := slc_one hL ha (by omega)
    cases l with
    | nil =>
      obtain ⟨o, h⟩ := read_name_d (P := P) (n := n + k + 1) hL ha hl
      exact rt_name hs opened_nil h
    | cons c r =>
      have hin := opened_in c
      unfold rdTree
      cases hc : opB c with
      | false =>
        rw [hc] at hin
        obtain ⟨o, h⟩ := read_name_d (P := P) (n := n + k + 1) hL ha hl
        exact rt_name hs hin h
      | true =>
        rw [hc] at hin
        obtain ⟨q, rfl⟩ := op_of hc
        have hd6 : ¬ d = 6 := by omega
        have hL1 : L = (p ++ [op q]) ++ r := by rw [hL]; simp
        obtain ⟨o1, h1⟩ := ih (p := p ++ [op q]) (l := r) (a := a + 1) (d := d + 1) (by omega) hL1 (by simp; omega) (by omega) hl
        simp only [if_true]
        cases e1 : rdTree k r with
        | none =>
          rw [e1] at h1
          exact rt_no1 hd6 hs hin opened_at h1
        | some xr =>
          obtain ⟨x, r2⟩ := xr
          obtain ⟨s1, _, _⟩ := rdTree_some k e1
          rw [e1] at h1
          simp only [resA, resA_len s1] at h1
          have hL2 : L = (p ++ [op q] ++ x.sp) ++ r2 := by rw [hL1, s1]; simp
          have ha2 : a + 1 + (x.sp.length : Int) = ((p ++ [op q] ++ x.sp).length : Int) := by simp; omega
          have hs2 := slc_one hL2 ha2 (by omega)
          cases r2 with
          | nil =>
            exact rt_no2 hd6 hs hin opened_at h1 (isNon_D x) hs2 (by decide)
          | cons e r3 =>
            simp only
            by_cases h32 : e = 32
            · subst h32
              rw [if_pos rfl]
              have hL3 : L = (p ++ [op q] ++ x.sp ++ [32]) ++ r3 := by rw [hL2]; simp
              obtain ⟨o2, h2⟩ := ih (p := p ++ [op q] ++ x.sp ++ [32]) (l := r3) (a := a + 1 + (x.sp.length : Int) + 1) (d := d + 1) (by omega) hL3 (by simp; omega) (by omega) hl
              cases e2 : rdTree k r3 with
              | none =>
                rw [e2] at h2
                exact rt_no3 hd6 hs hin opened_at h1 (isNon_D x) hs2 h2
              | some yr =>
                obtain ⟨y, r4⟩ := yr
                obtain ⟨s2, _, _⟩ := rdTree_some k e2
                rw [e2] at h2
                simp only [resA, resA_len s2] at h2
                have hL4 : L = (p ++ [op q] ++ x.sp ++ [32] ++ y.sp) ++ r4 := by rw [hL3, s2]; simp
                have ha4 : a + 1 + (x.sp.length : Int) + 1 + (y.sp.length : Int) = ((p ++ [op q] ++ x.sp ++ [32] ++ y.sp).length : Int) := by simp; omega
                have hs4 := slc_one hL4 ha4 (by omega)
                cases r4 with
                | nil => exact rt_no4 hd6 hs hin opened_at h1 (isNon_D x) hs2 h2 (isNon_D y) hs4 br_at br_1 (by rw [show List.take 1 ([] : List Nat) = [] from rfl, tx_inj]; simp)
                | cons f r5 =>
                  simp only [op40]
                  by_cases hf : f = cl q
                  · subst hf
                    rw [if_pos rfl]
                    have fin := rt_yes hd6 hs hin opened_at h1 (isNon_D x) hs2 h2 (isNon_D y) hs4 br_at br_1
                    have el : a + ((List.length (op q :: r) - List.length r5 : Nat) : Int) = a + 1 + (x.sp.length : Int) + 1 + (y.sp.length : Int) + 1 := by
                      rw [s1, s2]
                      simp
                      omega
                    simp only [resA, el]
                    exact fin
                  · rw [if_neg hf]
                    exact rt_no4 hd6 hs hin opened_at h1 (isNon_D x) hs2 h2 (isNon_D y) hs4 br_at br_1 (by rw [show List.take 1 (f :: r5) = [f] from rfl, tx1]; exact hf)
            · rw [if_neg h32]
              exact rt_no2 hd6 hs hin opened_at h1 (isNon_D x) hs2 (by rw [show List.take 1 (e :: r3) = [e] from rfl, show (" " : Str) = tx [32] from rfl, tx1]; exact h32)
/-- the reading that a text tells -/
def rdIn (L : List Nat) : Option Tr := match rdTree 6 L with
  | some (t, []) => if t.ends.length ≤ 6 then some t else none
  | _ => none
theorem Pd_D : ∀ {t : Tr}, t.named → Pd t.D = true
  | .leaf s, h => by
    have := (name_len (named_leaf h)).2.1
    simp only [Tr.D, Pd, decide_eq_true_eq, str_len]; omega
  | .node r a b, h => by
    obtain ⟨h1, h2⟩ := named_node.mp h
    have h3 : Pd (.str (side r)) = true := by cases r <;> rfl
    simp [Tr.D, Pd, Pds, Pd_D h1, Pd_D h2] at h3 ⊢
    exact h3
variable [Has P "reading_in" Rd.f_reading_in] [Has P "is_reading" Rd.f_is_reading] [Has P "is_tree" Rd.f_is_tree] [Has P "is_threefold" Rd.f_is_threefold] [Has P "ends_of" Rd.f_ends_of] [Con P "OTHER_SIDE" (.dct ["right", "left"] [.str "left", .str "right"])]
theorem read_non : isReadD .non = false := by unfold isReadD; rw [toTr_eq]; rfl
def optD : Option Tr → D
  | some t => t.D
  | none => .non
theorem reading_in_d {L : List Nat} (hl : L.length ≤ 50000) : Ret P (n + 10) "reading_in" [.d (.str (tx L))] (.d (optD (rdIn L))) := by
  obtain ⟨o1, h1⟩ := read_tree_d (P := P) (n := n) 6 (p := []) (l := L) (L := L) (a := 0) (d := 0) (by omega) rfl rfl rfl hl
  have hz : (tx L).length ≤ line := by rw [tx_len]; unfold line; omega
  refine ret_x Has.lk rfl ?_
  show ∃ v e, evSs P (callF P (n + 9)) [0] Rd.b_reading_in [some (.d (.str (tx L))), none, none] = .rt v e ∧ v = _
  unfold Rd.b_reading_in
  unfold rdIn
  cases e1 : rdTree 6 L with
  | none =>
    rw [e1] at h1
    obtain ⟨o2, h2⟩ := is_reading_d (P := P) (m := n + 6) (x := .non) rfl (by simp [dep]) (by simp [dep])
    rw [read_non] at h2
    change callF P (n + 9) _ _ = .ok (.d (.bl false)) _ at h2
    change callF P (n + 9) _ _ = .ok (.d (.tup [.non, .int 0])) _ at h1
    simp only
    by_cases h0 : (0 : Int) = ((tx L).length : Int)
    · replace h0 := eq_true h0
      simp only [evSs, evS, evE, evIts, evAs, evIt, evJs, Res.bind, Res.fl, Res.of, Fl.then, use, useB, item, take, slot_z, slot_s, nxO, stor, assignTg, W.frz, callA, bindA, bkn, bkc, useAll, C.d, E.isNone, partB, Option.bind, Option.map, Has.lk, Con.gl, Exn.ex, List.length_cons, List.length_nil, List.set_cons_zero, List.set_cons_succ, List.contains_cons, List.contains_nil, beq_iff_eq, Nat.reduceAdd, Nat.reduceLeDiff, Nat.reduceEqDiff, Nat.reduceBEq, Nat.reduceBNe, Int.reduceNeg, if_true, if_false, or_self, or_false, false_or, or_true, true_or, and_self, and_true, true_and, Bool.or_false, Bool.or_true, Bool.false_or, Bool.true_or, Bool.and_true, Bool.true_and, Bool.and_false, Bool.false_and, Bool.false_eq_true, Bool.not_true, Bool.not_false, decide_eq_true_eq, decide_true, decide_false, not_true_eq_false, not_false_eq_true, reduceIte, reduceCtorEq, Bool.not_eq_true', decide_eq_false_iff_not, List.cons_append, List.nil_append, List.append_nil, Nat.zero_le, Int.reduceEq, Int.reduceLT, Int.reduceLE, eq_self, cast0, cast1, cast2, cast3, cast4, cast5, cast6, cast7, cast8, cast9, lit_line, l_str, m_app, m_ext, o_adds, o_addl, o_addt, rv_s, binAdd, binSub, c_lt, c_le, c_gt, c_ge, isN_eq, notN_eq, nin_eq, in_eq, eq_eq2, ne_eq2, eqF_s, eqF_i, xdd, xtt, xll, at0, at1, at2, nn_non, nn_t, nn_l, nn_s, nn_i, nn_b, nn_c, nn_x, l_tup, l_lst, b_tt, b_tl, b_lt, b_ll, b_ii, b_repr2, b_all2, b_any2, rv_t, ty_1, ty_2, ty_3, ty_4, ty_5, ty_6, ty_7, ty_8, ty_9, ty_10, ty_11, ty_12, ty_13, ty_14, ty_15, ty_16, ty_17, ty_18, ty_19, ty_20, ty_21, ty_22, ty_23, ty_24, ty_25, ty_26, ty_27, ty_28, *]
      refine ⟨_, _, rfl, ?_⟩
      rfl
    · simp only [evSs, evS, evE, evIts, evAs, evIt, evJs, Res.bind, Res.fl, Res.of, Fl.then, use, useB, item, take, slot_z, slot_s, nxO, stor, assignTg, W.frz, callA, bindA, bkn, bkc, useAll, C.d, E.isNone, partB, Option.bind, Option.map, Has.lk, Con.gl, Exn.ex, List.length_cons, List.length_nil, List.set_cons_zero, List.set_cons_succ, List.contains_cons, List.contains_nil, beq_iff_eq, Nat.reduceAdd, Nat.reduceLeDiff, Nat.reduceEqDiff, Nat.reduceBEq, Nat.reduceBNe, Int.reduceNeg, if_true, if_false, or_self, or_false, false_or, or_true, true_or, and_self, and_true, true_and, Bool.or_false, Bool.or_true, Bool.false_or, Bool.true_or, Bool.and_true, Bool.true_and, Bool.and_false, Bool.false_and, Bool.false_eq_true, Bool.not_true, Bool.not_false, decide_eq_true_eq, decide_true, decide_false, not_true_eq_false, not_false_eq_true, reduceIte, reduceCtorEq, Bool.not_eq_true', decide_eq_false_iff_not, List.cons_append, List.nil_append, List.append_nil, Nat.zero_le, Int.reduceEq, Int.reduceLT, Int.reduceLE, eq_self, cast0, cast1, cast2, cast3, cast4, cast5, cast6, cast7, cast8, cast9, lit_line, l_str, m_app, m_ext, o_adds, o_addl, o_addt, rv_s, binAdd, binSub, c_lt, c_le, c_gt, c_ge, isN_eq, notN_eq, nin_eq, in_eq, eq_eq2, ne_eq2, eqF_s, eqF_i, xdd, xtt, xll, at0, at1, at2, nn_non, nn_t, nn_l, nn_s, nn_i, nn_b, nn_c, nn_x, l_tup, l_lst, b_tt, b_tl, b_lt, b_ll, b_ii, b_repr2, b_all2, b_any2, rv_t, ty_1, ty_2, ty_3, ty_4, ty_5, ty_6, ty_7, ty_8, ty_9, ty_10, ty_11, ty_12, ty_13, ty_14, ty_15, ty_16, ty_17, ty_18, ty_19, ty_20, ty_21, ty_22, ty_23, ty_24, ty_25, ty_26, ty_27, ty_28, *]
      refine ⟨_, _, rfl, ?_⟩
      rfl
  | some tr =>
    obtain ⟨t, r⟩ := tr
    obtain ⟨s1, nm, dp⟩ := rdTree_some 6 e1
    rw [e1] at h1
    simp only [resA, resA_len s1, Int.zero_add] at h1
    change callF P (n + 9) _ _ = _ at h1
    have hLl : L.length = t.sp.length + r.length := by rw [s1, List.length_append]
    cases r with
    | nil =>
      have h0 : (t.sp.length : Int) = ((tx L).length : Int) := by rw [tx_len]; simp at hLl; omega
      obtain ⟨o2, h2⟩ := is_reading_d (P := P) (m := n + 6) (x := t.D) (Pd_D nm) (by rw [D_dep]; omega) (by rw [D_dep]; omega)
      unfold isReadD at h2
      rw [toTr_D nm] at h2
      change callF P (n + 9) _ _ = .ok (.d (.bl (decide (t.ends.length ≤ 6)))) _ at h2
      simp only
      clear s1 hLl
      by_cases h6 : t.ends.length ≤ 6
      · rw [if_pos h6]
        rw [decide_eq_true h6] at h2
        simp only [evSs, evS, evE, evIts, evAs, evIt, evJs, Res.bind, Res.fl, Res.of, Fl.then, use, useB, item, take, slot_z, slot_s, nxO, stor, assignTg, W.frz, callA, bindA, bkn, bkc, useAll, C.d, E.isNone, partB, Option.bind, Option.map, Has.lk, Con.gl, Exn.ex, List.length_cons, List.length_nil, List.set_cons_zero, List.set_cons_succ, List.contains_cons, List.contains_nil, beq_iff_eq, Nat.reduceAdd, Nat.reduceLeDiff, Nat.reduceEqDiff, Nat.reduceBEq, Nat.reduceBNe, Int.reduceNeg, if_true, if_false, or_self, or_false, false_or, or_true, true_or, and_self, and_true, true_and, Bool.or_false, Bool.or_true, Bool.false_or, Bool.true_or, Bool.and_true, Bool.true_and, Bool.and_false, Bool.false_and, Bool.false_eq_true, Bool.not_true, Bool.not_false, decide_eq_true_eq, decide_true, decide_false, not_true_eq_false, not_false_eq_true, reduceIte, reduceCtorEq, Bool.not_eq_true', decide_eq_false_iff_not, List.cons_append, List.nil_append, List.append_nil, Nat.zero_le, Int.reduceEq, Int.reduceLT, Int.reduceLE, eq_self, cast0, cast1, cast2, cast3, cast4, cast5, cast6, cast7, cast8, cast9, lit_line, l_str, m_app, m_ext, o_adds, o_addl, o_addt, rv_s, binAdd, binSub, c_lt, c_le, c_gt, c_ge, isN_eq, notN_eq, nin_eq, in_eq, eq_eq2, ne_eq2, eqF_s, eqF_i, xdd, xtt, xll, at0, at1, at2, nn_non, nn_t, nn_l, nn_s, nn_i, nn_b, nn_c, nn_x, l_tup, l_lst, b_tt, b_tl, b_lt, b_ll, b_ii, b_repr2, b_all2, b_any2, rv_t, ty_1, ty_2, ty_3, ty_4, ty_5, ty_6, ty_7, ty_8, ty_9, ty_10, ty_11, ty_12, ty_13, ty_14, ty_15, ty_16, ty_17, ty_18, ty_19, ty_20, ty_21, ty_22, ty_23, ty_24, ty_25, ty_26, ty_27, ty_28, *]
        refine ⟨_, _, rfl, ?_⟩
        rfl
      · rw [if_neg h6]
        rw [decide_eq_false h6] at h2
        simp only [evSs, evS, evE, evIts, evAs, evIt, evJs, Res.bind, Res.fl, Res.of, Fl.then, use, useB, item, take, slot_z, slot_s, nxO, stor, assignTg, W.frz, callA, bindA, bkn, bkc, useAll, C.d, E.isNone, partB, Option.bind, Option.map, Has.lk, Con.gl, Exn.ex, List.length_cons, List.length_nil, List.set_cons_zero, List.set_cons_succ, List.contains_cons, List.contains_nil, beq_iff_eq, Nat.reduceAdd, Nat.reduceLeDiff, Nat.reduceEqDiff, Nat.reduceBEq, Nat.reduceBNe, Int.reduceNeg, if_true, if_false, or_self, or_false, false_or, or_true, true_or, and_self, and_true, true_and, Bool.or_false, Bool.or_true, Bool.false_or, Bool.true_or, Bool.and_true, Bool.true_and, Bool.and_false, Bool.false_and, Bool.false_eq_true, Bool.not_true, Bool.not_false, decide_eq_true_eq, decide_true, decide_false, not_true_eq_false, not_false_eq_true, reduceIte, reduceCtorEq, Bool.not_eq_true', decide_eq_false_iff_not, List.cons_append, List.nil_append, List.append_nil, Nat.zero_le, Int.reduceEq, Int.reduceLT, Int.reduceLE, eq_self, cast0, cast1, cast2, cast3, cast4, cast5, cast6, cast7, cast8, cast9, lit_line, l_str, m_app, m_ext, o_adds, o_addl, o_addt, rv_s, binAdd, binSub, c_lt, c_le, c_gt, c_ge, isN_eq, notN_eq, nin_eq, in_eq, eq_eq2, ne_eq2, eqF_s, eqF_i, xdd, xtt, xll, at0, at1, at2, nn_non, nn_t, nn_l, nn_s, nn_i, nn_b, nn_c, nn_x, l_tup, l_lst, b_tt, b_tl, b_lt, b_ll, b_ii, b_repr2, b_all2, b_any2, rv_t, ty_1, ty_2, ty_3, ty_4, ty_5, ty_6, ty_7, ty_8, ty_9, ty_10, ty_11, ty_12, ty_13, ty_14, ty_15, ty_16, ty_17, ty_18, ty_19, ty_20, ty_21, ty_22, ty_23, ty_24, ty_25, ty_26, ty_27, ty_28, *]
        refine ⟨_, _, rfl, ?_⟩
        rfl
    | cons c r =>
      have h0 : ¬ (t.sp.length : Int) = ((tx L).length : Int) := by rw [tx_len]; simp at hLl; omega
      simp only
      clear s1 hLl
      simp only [evSs, evS, evE, evIts, evAs, evIt, evJs, Res.bind, Res.fl, Res.of, Fl.then, use, useB, item, take, slot_z, slot_s, nxO, stor, assignTg, W.frz, callA, bindA, bkn, bkc, useAll, C.d, E.isNone, partB, Option.bind, Option.map, Has.lk, Con.gl, Exn.ex, List.length_cons, List.length_nil, List.set_cons_zero, List.set_cons_succ, List.contains_cons, List.contains_nil, beq_iff_eq, Nat.reduceAdd, Nat.reduceLeDiff, Nat.reduceEqDiff, Nat.reduceBEq, Nat.reduceBNe, Int.reduceNeg, if_true, if_false, or_self, or_false, false_or, or_true, true_or, and_self, and_true, true_and, Bool.or_false, Bool.or_true, Bool.false_or, Bool.true_or, Bool.and_true, Bool.true_and, Bool.and_false, Bool.false_and, Bool.false_eq_true, Bool.not_true, Bool.not_false, decide_eq_true_eq, decide_true, decide_false, not_true_eq_false, not_false_eq_true, reduceIte, reduceCtorEq, Bool.not_eq_true', decide_eq_false_iff_not, List.cons_append, List.nil_append, List.append_nil, Nat.zero_le, Int.reduceEq, Int.reduceLT, Int.reduceLE, eq_self, cast0, cast1, cast2, cast3, cast4, cast5, cast6, cast7, cast8, cast9, lit_line, l_str, m_app, m_ext, o_adds, o_addl, o_addt, rv_s, binAdd, binSub, c_lt, c_le, c_gt, c_ge, isN_eq, notN_eq, nin_eq, in_eq, eq_eq2, ne_eq2, eqF_s, eqF_i, xdd, xtt, xll, at0, at1, at2, nn_non, nn_t, nn_l, nn_s, nn_i, nn_b, nn_c, nn_x, l_tup, l_lst, b_tt, b_tl, b_lt, b_ll, b_ii, b_repr2, b_all2, b_any2, rv_t, ty_1, ty_2, ty_3, ty_4, ty_5, ty_6, ty_7, ty_8, ty_9, ty_10, ty_11, ty_12, ty_13, ty_14, ty_15, ty_16, ty_17, ty_18, ty_19, ty_20, ty_21, ty_22, ty_23, ty_24, ty_25, ty_26, ty_27, ty_28, *]
      refine ⟨_, _, rfl, ?_⟩
      rfl
/-- raised -/
def RetX (P : Prog) (n : Nat) (f : Str) (ws : List PyEv.W) (x : D) : Prop := ∃ outs, callF P n f ws = .exc x outs
theorem retX_of {P : Prog} {n : Nat} {f : Str} {fn : Fn} {ws : List PyEv.W} {x : D} (h : P.fns.lookup f = some fn) (hl : ws.length = fn.n) (b : ∃ v e, evSs P (callF P n) fn.keep fn.body (ws.map some ++ List.replicate (fn.m - fn.n) none) = .ex v e ∧ v = x) : RetX P (n + 1) f ws x := by
  obtain ⟨v, e, b, rfl⟩ := b
  exact ⟨e, by rw [call_eq h hl, b, finC]⟩
variable [Has P "reading_of" Rd.f_reading_of] [Exn P "BadText"]
theorem reading_of_t {L : List Nat} {t : Tr} (hl : L.length ≤ 50000) (ht : rdIn L = some t) : Ret P (n + 11) "reading_of" [.d (.str (tx L))] (.d t.D) := by
  obtain ⟨o1, h1⟩ := reading_in_d (P := P) (n := n) hl
  rw [ht] at h1
  change callF P (n + 10) _ _ = .ok (.d t.D) _ at h1
  have nx := isNon_D t
  refine ret_x Has.lk rfl ?_
  show ∃ v e, evSs P (callF P (n + 10)) [0] Rd.b_reading_of [some (.d (.str (tx L))), none] = .rt v e ∧ v = _
  unfold Rd.b_reading_of
  clear ht
  simp only [evSs, evS, evE, evIts, evAs, evIt, evJs, Res.bind, Res.fl, Res.of, Fl.then, use, useB, item, take, slot_z, slot_s, nxO, stor, assignTg, W.frz, callA, bindA, bkn, bkc, useAll, C.d, E.isNone, partB, Option.bind, Option.map, Has.lk, Con.gl, Exn.ex, List.length_cons, List.length_nil, List.set_cons_zero, List.set_cons_succ, List.contains_cons, List.contains_nil, beq_iff_eq, Nat.reduceAdd, Nat.reduceLeDiff, Nat.reduceEqDiff, Nat.reduceBEq, Nat.reduceBNe, Int.reduceNeg, if_true, if_false, or_self, or_false, false_or, or_true, true_or, and_self, and_true, true_and, Bool.or_false, Bool.or_true, Bool.false_or, Bool.true_or, Bool.and_true, Bool.true_and, Bool.and_false, Bool.false_and, Bool.false_eq_true, Bool.not_true, Bool.not_false, decide_eq_true_eq, decide_true, decide_false, not_true_eq_false, not_false_eq_true, reduceIte, reduceCtorEq, Bool.not_eq_true', decide_eq_false_iff_not, List.cons_append, List.nil_append, List.append_nil, Nat.zero_le, Int.reduceEq, Int.reduceLT, Int.reduceLE, eq_self, cast0, cast1, cast2, cast3, cast4, cast5, cast6, cast7, cast8, cast9, lit_line, l_str, m_app, m_ext, o_adds, o_addl, o_addt, rv_s, binAdd, binSub, c_lt, c_le, c_gt, c_ge, isN_eq, notN_eq, nin_eq, in_eq, eq_eq2, ne_eq2, eqF_s, eqF_i, xdd, xtt, xll, at0, at1, at2, nn_non, nn_t, nn_l, nn_s, nn_i, nn_b, nn_c, nn_x, l_tup, l_lst, b_tt, b_tl, b_lt, b_ll, b_ii, b_repr2, b_all2, b_any2, rv_t, ty_1, ty_2, ty_3, ty_4, ty_5, ty_6, ty_7, ty_8, ty_9, ty_10, ty_11, ty_12, ty_13, ty_14, ty_15, ty_16, ty_17, ty_18, ty_19, ty_20, ty_21, ty_22, ty_23, ty_24, ty_25, ty_26, ty_27, ty_28, *]
  refine ⟨_, _, rfl, ?_⟩
  rfl
theorem reading_of_x {L : List Nat} (hl : L.length ≤ 50000) (ht : rdIn L = none) : RetX P (n + 11) "reading_of" [.d (.str (tx L))] (.exc "BadText" (.str (tx L))) := by
  obtain ⟨o1, h1⟩ := reading_in_d (P := P) (n := n) hl
  rw [ht] at h1
  change callF P (n + 10) _ _ = .ok (.d .non) _ at h1
  refine retX_of Has.lk rfl ?_
  show ∃ v e, evSs P (callF P (n + 10)) [0] Rd.b_reading_of [some (.d (.str (tx L))), none] = .ex v e ∧ v = _
  unfold Rd.b_reading_of
  clear ht
  simp only [evSs, evS, evE, evIts, evAs, evIt, evJs, Res.bind, Res.fl, Res.of, Fl.then, use, useB, item, take, slot_z, slot_s, nxO, stor, assignTg, W.frz, callA, bindA, bkn, bkc, useAll, C.d, E.isNone, partB, Option.bind, Option.map, Has.lk, Con.gl, Exn.ex, List.length_cons, List.length_nil, List.set_cons_zero, List.set_cons_succ, List.contains_cons, List.contains_nil, beq_iff_eq, Nat.reduceAdd, Nat.reduceLeDiff, Nat.reduceEqDiff, Nat.reduceBEq, Nat.reduceBNe, Int.reduceNeg, if_true, if_false, or_self, or_false, false_or, or_true, true_or, and_self, and_true, true_and, Bool.or_false, Bool.or_true, Bool.false_or, Bool.true_or, Bool.and_true, Bool.true_and, Bool.and_false, Bool.false_and, Bool.false_eq_true, Bool.not_true, Bool.not_false, decide_eq_true_eq, decide_true, decide_false, not_true_eq_false, not_false_eq_true, reduceIte, reduceCtorEq, Bool.not_eq_true', decide_eq_false_iff_not, List.cons_append, List.nil_append, List.append_nil, Nat.zero_le, Int.reduceEq, Int.reduceLT, Int.reduceLE, eq_self, cast0, cast1, cast2, cast3, cast4, cast5, cast6, cast7, cast8, cast9, lit_line, l_str, m_app, m_ext, o_adds, o_addl, o_addt, rv_s, binAdd, binSub, c_lt, c_le, c_gt, c_ge, isN_eq, notN_eq, nin_eq, in_eq, eq_eq2, ne_eq2, eqF_s, eqF_i, xdd, xtt, xll, at0, at1, at2, nn_non, nn_t, nn_l, nn_s, nn_i, nn_b, nn_c, nn_x, l_tup, l_lst, b_tt, b_tl, b_lt, b_ll, b_ii, b_repr2, b_all2, b_any2, rv_t, ty_1, ty_2, ty_3, ty_4, ty_5, ty_6, ty_7, ty_8, ty_9, ty_10, ty_11, ty_12, ty_13, ty_14, ty_15, ty_16, ty_17, ty_18, ty_19, ty_20, ty_21, ty_22, ty_23, ty_24, ty_25, ty_26, ty_27, ty_28, *]
  refine ⟨_, _, rfl, ?_⟩
  rfl
theorem reading_of_no {x : D} (hx : D.isTy .str x = some false) : RetX P (n + 1) "reading_of" [.d x] (.exc "BadText" x) := by
  refine retX_of Has.lk rfl ?_
  show ∃ v e, evSs P (callF P n) [0] Rd.b_reading_of [some (.d x), none] = .ex v e ∧ v = _
  unfold Rd.b_reading_of
  simp only [evSs, evS, evE, evIts, evAs, evIt, evJs, Res.bind, Res.fl, Res.of, Fl.then, use, useB, item, take, slot_z, slot_s, nxO, stor, assignTg, W.frz, callA, bindA, bkn, bkc, useAll, C.d, E.isNone, partB, Option.bind, Option.map, Has.lk, Con.gl, Exn.ex, List.length_cons, List.length_nil, List.set_cons_zero, List.set_cons_succ, List.contains_cons, List.contains_nil, beq_iff_eq, Nat.reduceAdd, Nat.reduceLeDiff, Nat.reduceEqDiff, Nat.reduceBEq, Nat.reduceBNe, Int.reduceNeg, if_true, if_false, or_self, or_false, false_or, or_true, true_or, and_self, and_true, true_and, Bool.or_false, Bool.or_true, Bool.false_or, Bool.true_or, Bool.and_true, Bool.true_and, Bool.and_false, Bool.false_and, Bool.false_eq_true, Bool.not_true, Bool.not_false, decide_eq_true_eq, decide_true, decide_false, not_true_eq_false, not_false_eq_true, reduceIte, reduceCtorEq, Bool.not_eq_true', decide_eq_false_iff_not, List.cons_append, List.nil_append, List.append_nil, Nat.zero_le, Int.reduceEq, Int.reduceLT, Int.reduceLE, eq_self, cast0, cast1, cast2, cast3, cast4, cast5, cast6, cast7, cast8, cast9, lit_line, l_str, m_app, m_ext, o_adds, o_addl, o_addt, rv_s, binAdd, binSub, c_lt, c_le, c_gt, c_ge, isN_eq, notN_eq, nin_eq, in_eq, eq_eq2, ne_eq2, eqF_s, eqF_i, xdd, xtt, xll, at0, at1, at2, nn_non, nn_t, nn_l, nn_s, nn_i, nn_b, nn_c, nn_x, l_tup, l_lst, b_tt, b_tl, b_lt, b_ll, b_ii, b_repr2, b_all2, b_any2, rv_t, ty_1, ty_2, ty_3, ty_4, ty_5, ty_6, ty_7, ty_8, ty_9, ty_10, ty_11, ty_12, ty_13, ty_14, ty_15, ty_16, ty_17, ty_18, ty_19, ty_20, ty_21, ty_22, ty_23, ty_24, ty_25, ty_26, ty_27, ty_28, *]
  refine ⟨_, _, rfl, ?_⟩
  rfl
end
end PyEv

set_option maxRecDepth 100000
set_option maxHeartbeats 4000000
/-! PyLwA: what many laws' own texts share: draws, words, drawn readings, odd values. -/
namespace Lw
open PyEv PySem
/-- _law_of -/
def b__law_of : Ss := (.cons (.ret (.ix (.var 1) (.call "_law_take" (.cons (.var 0) (.cons (.bi .len (.var 1)) .nil))))) .nil)
def f__law_of : Fn := ⟨2, 2, [0, 1], b__law_of⟩
def for__law_some_0 : S := (.for (.one 5) (.range1 (.var 2)) (.cons (.expr (.mut .append 4 (.cons (.mut .popAt 3 (.cons (.call "_law_take" (.cons (.var 0) (.cons (.bi .len (.var 3)) .nil))) .nil)) .nil))) .nil))
/-- _law_some -/
def b__law_some : Ss := (.cons (.par 3 4 (.bi .list (.var 1)) (.lst .nil)) (.cons for__law_some_0 (.cons (.ret (.var 4)) .nil)))
def f__law_some : Fn := ⟨3, 6, [0, 1, 2], b__law_some⟩
/-- _law_odd -/
def b__law_odd : Ss := (.cons (.set 1 (.lst (.cons (.k .non) (.cons (.k (.bl true)) (.cons (.k (.bl false)) (.cons (.k (.int 0)) (.cons (.k (.int 1)) (.cons (.neg (.k (.int 1))) (.cons (.k (.int 7)) (.cons (.k (.str "")) (.cons (.k (.str "s")) (.cons (.k (.str "a")) (.cons (.k (.str "is")) (.cons (.k (.str "always")) (.cons (.tup .nil) (.cons (.lst .nil) (.cons (.dct [] .nil) (.cons (.tup (.cons (.k (.int 0)) .nil)) (.cons (.tup (.cons (.tup .nil) .nil)) (.cons (.lst (.cons (.k (.int 0)) .nil)) (.cons (.k (.str "A")) (.cons (.tup (.cons (.k (.int 0)) (.cons (.k (.int 0)) .nil))) .nil)))))))))))))))))))))) (.cons (.set 1 (.bin .add (.var 1) (.lst (.cons (.tup (.cons (.k (.str "is")) .nil)) (.cons (.tup (.cons (.k (.str "a")) (.cons (.k (.str "b")) .nil))) (.cons (.tup (.cons (.k (.str "right")) (.cons (.k (.str "a")) .nil))) (.cons (.tup (.cons (.tup .nil) (.cons (.tup .nil) .nil))) (.cons (.tup (.cons (.k .non) .nil)) (.cons (.tup (.cons (.k (.bl true)) .nil)) (.cons (.bin .pow (.k (.int 10)) (.k (.int 8))) (.cons (.tup (.cons (.k (.str "row")) (.cons (.tup .nil) .nil))) (.cons (.k (.str "(a b)")) .nil)))))))))))) (.cons (.ret (.call "_law_of" (.cons (.var 0) (.cons (.var 1) .nil)))) .nil)))
def f__law_odd : Fn := ⟨1, 2, [0], b__law_odd⟩
/-- _law_ends -/
def b__law_ends : Ss := (.cons (.ret (.ifx (.isi (.var 0) .str) (.lst (.cons (.var 0) .nil)) (.bin .add (.call "_law_ends" (.cons (.ix (.var 0) (.k (.int 1))) .nil)) (.call "_law_ends" (.cons (.ix (.var 0) (.k (.int 2))) .nil))))) .nil)
def f__law_ends : Fn := ⟨1, 1, [0], b__law_ends⟩
/-- _law_spelled -/
def b__law_spelled : Ss := (.cons (.ife (.isi (.var 0) .str) (.cons (.ret (.var 0)) .nil) .nil) (.cons (.set 1 (.ifx (.cmp .eq (.ix (.var 0) (.k (.int 0))) (.k (.str "right"))) (.k (.str "()")) (.k (.str "[]")))) (.cons (.ret (.bin .add (.bin .add (.bin .add (.bin .add (.ix (.var 1) (.k (.int 0))) (.call "_law_spelled" (.cons (.ix (.var 0) (.k (.int 1))) .nil))) (.k (.str " "))) (.call "_law_spelled" (.cons (.ix (.var 0) (.k (.int 2))) .nil))) (.ix (.var 1) (.k (.int 1))))) .nil)))
def f__law_spelled : Fn := ⟨1, 2, [0], b__law_spelled⟩
def lc__law_is_name_0 : E := (.lc (.cmp .isin (.var 2) (.var 1)) (.one 2) (.seq (.var 0)) .none [("_law_one", 2)])
/-- _law_is_name -/
def b__law_is_name : Ss := (.cons (.set 1 (.k (.str "abcdefghijklmnopqrstuvwxyz"))) (.cons (.ret (.and (.isi (.var 0) .str) (.and (.chain .lt .lt (.k (.int 0)) (.bi .len (.var 0)) (.k (.int 9))) (.bi .all lc__law_is_name_0)))) .nil))
def f__law_is_name : Fn := ⟨1, 3, [0], b__law_is_name⟩
/-- _law_words -/
def b__law_words : Ss := (.cons (.set 3 (.lst (.cons (.k (.str "ann")) (.cons (.k (.str "bob")) (.cons (.k (.str "sees")) (.cons (.k (.str "s")) (.cons (.k (.str "row")) (.cons (.k (.str "not")) (.cons (.k (.str "like")) (.cons (.k (.str "is")) (.cons (.k (.str "a")) (.cons (.k (.str "zzzzzzzz")) (.cons (.k (.str "b")) (.cons (.k (.str "words")) (.cons (.k (.str "right")) (.cons (.k (.str "tells")) .nil)))))))))))))))) (.cons (.ret (.bi .tuple (.call "_law_some" (.cons (.var 0) (.cons (.var 3) (.cons (.bin .add (.var 1) (.call "_law_take" (.cons (.var 0) (.cons (.bin .add (.bin .sub (.var 2) (.var 1)) (.k (.int 1))) .nil)))) .nil)))))) .nil))
def f__law_words : Fn := ⟨3, 4, [0, 1, 2], b__law_words⟩
/-- _law_tree -/
def b__law_tree : Ss := (.cons (.ife (.cmp .eq (.var 2) (.k (.int 1))) (.cons (.ret (.call "_law_of" (.cons (.var 0) (.cons (.var 1) .nil)))) .nil) .nil) (.cons (.set 3 (.bin .add (.k (.int 1)) (.call "_law_take" (.cons (.var 0) (.cons (.bin .sub (.var 2) (.k (.int 1))) .nil))))) (.cons (.set 4 (.ix (.lst (.cons (.k (.str "right")) (.cons (.k (.str "left")) .nil))) (.call "_law_take" (.cons (.var 0) (.cons (.k (.int 2)) .nil))))) (.cons (.ret (.tup (.cons (.var 4) (.cons (.call "_law_tree" (.cons (.var 0) (.cons (.var 1) (.cons (.var 3) .nil)))) (.cons (.call "_law_tree" (.cons (.var 0) (.cons (.var 1) (.cons (.bin .sub (.var 2) (.var 3)) .nil)))) .nil))))) .nil))))
def f__law_tree : Fn := ⟨3, 5, [0, 1, 2], b__law_tree⟩
/-- _law_is_tree -/
def b__law_is_tree : Ss := (.cons (.ife (.isi (.var 1) .str) (.cons (.ret (.and (.call "_law_is_name" (.cons (.var 1) .nil)) (.or (.cmp .isN (.var 0) (.k .non)) (.cmp .isin (.var 1) (.var 0))))) .nil) .nil) (.cons (.ife (.or (.not (.isi (.var 1) .tuple)) (.or (.cmp .ne (.bi .len (.var 1)) (.k (.int 3))) (.not (.isi (.ix (.var 1) (.k (.int 0))) .str)))) (.cons (.ret (.k (.bl false))) .nil) .nil) (.cons (.ret (.and (.cmp .isin (.ix (.var 1) (.k (.int 0))) (.tup (.cons (.k (.str "right")) (.cons (.k (.str "left")) .nil)))) (.and (.call "_law_is_tree" (.cons (.var 0) (.cons (.ix (.var 1) (.k (.int 1))) .nil))) (.call "_law_is_tree" (.cons (.var 0) (.cons (.ix (.var 1) (.k (.int 2))) .nil)))))) .nil)))
def f__law_is_tree : Fn := ⟨2, 2, [0, 1], b__law_is_tree⟩
/-- _law_is_reading -/
def b__law_is_reading : Ss := (.cons (.ret (.and (.call "_law_is_tree" (.cons (.var 0) (.cons (.var 1) .nil))) (.cmp .lt (.bi .len (.call "_law_ends" (.cons (.var 1) .nil))) (.k (.int 7))))) .nil)
def f__law_is_reading : Fn := ⟨2, 2, [0, 1], b__law_is_reading⟩
def lc__law_is_row_0 : E := (.lc (.and (.call "_law_is_name" (.cons (.var 2) .nil)) (.or (.cmp .isN (.var 0) (.k .non)) (.cmp .isin (.var 2) (.var 0)))) (.one 2) (.seq (.var 1)) .none [("_law_one", 2)])
/-- _law_is_row -/
def b__law_is_row : Ss := (.cons (.ife (.or (.not (.isi (.var 1) .tuple)) (.not (.chain .lt .lt (.k (.int 0)) (.bi .len (.var 1)) (.k (.int 6))))) (.cons (.ret (.k (.bl false))) .nil) .nil) (.cons (.ret (.bi .all lc__law_is_row_0)) .nil))
def f__law_is_row : Fn := ⟨2, 3, [0, 1], b__law_is_row⟩
end Lw
namespace PyEv
open PySem
local macro_rules | `(tactic| infer_instance) => `(tactic| first | with_reducible assumption | with_reducible exact sl0 | (with_reducible apply slS) | with_reducible exact set0 | (with_reducible apply setS) | (with_reducible apply gs_raise) | (with_reducible apply q_ret) | (with_reducible apply q_if) | (with_reducible apply q_an) | (with_reducible apply q_ac) | (with_reducible apply q_nil) | (with_reducible apply q_c) | (with_reducible apply gs_set) | (with_reducible apply gs_par) | (with_reducible apply gs_unp) | (with_reducible apply gs_six) | (with_reducible apply gs_expr) | (with_reducible apply gs_pass) | (with_reducible apply sk_v) | (with_reducible apply sk_w) | (with_reducible apply pk_ww) | (with_reducible apply pk_v) | (with_reducible apply pk_wv) | (with_reducible apply xv) | (with_reducible apply xk_n) | (with_reducible apply xk_b) | (with_reducible apply xk_i) | (with_reducible apply xk_s) | (with_reducible apply xglob) | (with_reducible apply xtup) | (with_reducible apply xlst) | (with_reducible apply xdct) | (with_reducible apply xbin) | (with_reducible apply xneg) | (with_reducible apply xcmp) | (with_reducible apply xch) | (with_reducible apply xchk) | (with_reducible apply xandE) | (with_reducible apply xorE) | (with_reducible apply xnotE) | (with_reducible apply xif) | (with_reducible apply xcall) | (with_reducible apply xbi) | (with_reducible apply xmm) | (with_reducible apply xisi) | (with_reducible apply xix) | (with_reducible apply xslc) | (with_reducible apply po_n) | (with_reducible apply po_s) | (with_reducible apply xrev) | (with_reducible apply rv_t) | (with_reducible apply rv_s) | (with_reducible apply xfstr) | (with_reducible apply js_n) | (with_reducible apply js_c) | (with_reducible apply xbm) | (with_reducible apply xmut) | (with_reducible apply xlr) | (with_reducible apply is_nil) | (with_reducible apply is_c) | (with_reducible apply is_s) | (with_reducible apply aa_nil) | (with_reducible apply aa_c) | (with_reducible apply w_seq) | (with_reducible apply if_t) | (with_reducible apply if_l) | (with_reducible apply w_r1) | (with_reducible apply w_r2) | (with_reducible apply w_zip) | (with_reducible apply w_enum) | (with_reducible apply us_d) | (with_reducible apply us_l) | (with_reducible apply us_c) | (with_reducible apply us_v) | (with_reducible apply fz_d) | (with_reducible apply fz_l) | (with_reducible apply fz_c) | (with_reducible apply it_d) | (with_reducible apply it_l) | (with_reducible apply it_c) | (with_reducible apply it_v) | (with_reducible apply iw_d) | (with_reducible apply iw_l) | (with_reducible apply iw_c) | (with_reducible apply tk_w) | (with_reducible apply tk_v) | (with_reducible apply tw_d) | (with_reducible apply tw_l) | (with_reducible apply tw_c) | (with_reducible apply as1) | (with_reducible apply as2) | (with_reducible apply as3) | (with_reducible apply st_ok) | (with_reducible apply ba_nil) | (with_reducible apply ba_v) | (with_reducible apply ba_vr) | (with_reducible apply bv_d) | (with_reducible apply bv_l) | (with_reducible apply bv_c) | (with_reducible apply bk_nil) | (with_reducible apply bk_c) | (with_reducible apply ua_nil) | (with_reducible apply ua_c) | (with_reducible apply o_adds) | (with_reducible apply o_addt) | (with_reducible apply o_addl) | (with_reducible apply binAdd) | (with_reducible apply binSub) | (with_reducible apply c_eqs) | (with_reducible apply c_eqi) | (with_reducible apply c_nes) | (with_reducible apply c_nei) | (with_reducible apply c_lt) | (with_reducible apply c_le) | (with_reducible apply c_gt) | (with_reducible apply c_ge) | (with_reducible apply c_ink) | (with_reducible apply xmk) | (with_reducible apply xfldv) | (with_reducible apply xisx) | (with_reducible apply xisv) | (with_reducible apply ix_exc) | (with_reducible apply iv_exc) | (with_reducible apply gs_raise) | (with_reducible apply gs_tryraise) | (with_reducible apply cf_ex) | (with_reducible apply l_tup) | (with_reducible apply l_lst) | (with_reducible apply l_str) | (with_reducible apply l_scr) | (with_reducible apply b_tt) | (with_reducible apply b_tl) | (with_reducible apply b_lt) | (with_reducible apply b_ll) | (with_reducible apply b_all) | (with_reducible apply b_any) | (with_reducible apply b_repr) | (with_reducible apply b_ii) | (with_reducible apply b_ib) | (with_reducible apply b_abs) | (with_reducible apply x_t) | (with_reducible apply x_l) | (with_reducible apply x_d) | (with_reducible apply m_app) | (with_reducible apply m_ext) | (with_reducible apply c_eqD) | (with_reducible apply c_neD) | (with_reducible apply c_in) | (with_reducible apply c_nin) | (with_reducible apply c_isN) | (with_reducible apply c_notN) | (with_reducible apply nn_non) | (with_reducible apply nn_t) | (with_reducible apply nn_l) | (with_reducible apply nn_s) | (with_reducible apply nn_i) | (with_reducible apply nn_b) | (with_reducible apply nn_c) | (with_reducible apply nn_x) | (with_reducible apply en_l) | (with_reducible apply en_t) | (with_reducible apply en_s) | with_reducible exact Has.lk | with_reducible exact Con.gl | with_reducible exact Exn.ex | with_reducible exact Hrs.hr | (with_reducible apply ite_t; focus (first | with_reducible rfl | with_reducible assumption | (refine decide_eq_true ?_; with_reducible assumption) | (refine decide_eq_false ?_; with_reducible assumption) | (simp; done) | (simp [*]; done) | (simp; omega))) | (with_reducible apply ite_f; focus (first | with_reducible rfl | with_reducible assumption | (refine decide_eq_true ?_; with_reducible assumption) | (refine decide_eq_false ?_; with_reducible assumption) | (simp; done) | (simp [*]; done) | (simp; omega))) | with_reducible exact at0 | with_reducible exact at1 | with_reducible exact at2 | (show List.contains _ _ = _; exact rfl) | (show _ < List.length _; exact Nat.le_of_ble_eq_true rfl) | (show E.isNone _ = false; exact rfl) | (show D.isTy _ _ = some _; exact rfl) | (show _ ≤ line; exact Nat.le_of_ble_eq_true rfl) | focus (show List.length _ ≤ line; first | assumption | (simp [line]; done) | (simp [line]; omega)) | focus (show List.length _ < line; first | assumption | (simp [line]; done) | (simp [line]; omega)) | focus (show _ ≤ line; first | assumption | (simp [line]; done) | (simp [line]; omega)) | (show D.lst _ = D.lst _ ∨ _; exact .inl rfl) | (show _ ∨ D.tup _ = D.tup _; exact .inr rfl) | (show List.contains (Prog.excs _) _ = true; exact rfl) | (show _ ≠ _; decide) | (show slot _ _ = _; exact rfl) | (show Res.ok _ _ = _; exact rfl))
class Tak (P : Prog) where
  f : Int
  g : Int
  lk : P.fns.lookup ("_law_take" : Str) = some (⟨2, 5, [0, 1], takeBody f g⟩ : Fn)
  f0 : 0 ≤ f
  f1 : f ≤ 1000000
  g0 : 0 ≤ g
  g1 : g ≤ 1000000
instance (P : Prog) [t : Tak P] : Has P "_law_take" (⟨2, 5, [0, 1], takeBody t.f t.g⟩ : Fn) := ⟨t.lk⟩
theorem callA_of {P : Prog} {n : Nat} {f : Str} {fn : Fn} {ws : List PyEv.W} {w : PyEv.W} {e : PyEv.Env} (h : P.fns.lookup f = some fn) (hl : ws.length = fn.n) (b : evSs P (callF P n) fn.keep fn.body (ws.map some ++ List.replicate (fn.m - fn.n) none) = .rt w e) : callF P (n + 1) f ws = .ok w e := by rw [call_eq h hl, b, finC]
section
variable {P : Prog} [tk : Tak P]
theorem take_n {r : Nat} {w : PyEv.W} {u : Int} (n : Nat) (h : PotR (r + 1) w) (hu : 1 ≤ u) (hu2 : u ≤ 1000000) :
    ∃ (d : Int) (w' : PyEv.W) (outs : PyEv.Env), callF P (n + 1) "_law_take" [w, .d (.int u)] = .ok (.d (.int d)) outs ∧ slot outs 0 = some w' ∧ PotR r w' ∧ 0 ≤ d ∧ d < u := pot_take tk.lk tk.f0 tk.f1 tk.g0 tk.g1 n h hu hu2
variable [Has P "_law_of" Lw.f__law_of]
theorem of_t {r : Nat} {w : PyEv.W} {ds : List D} (n : Nat) (h : PotR (r + 1) w) (h1 : 1 ≤ ds.length) (h2 : ds.length ≤ 1000000) :
    ∃ x w' outs, callF P (n + 2) "_law_of" [w, .d (.tup ds)] = .ok (.d x) outs ∧ slot outs 0 = some w' ∧ PotR r w' ∧ x ∈ ds :=
  pot_of tk.lk tk.f0 tk.f1 tk.g0 tk.g1 (Has.lk (f := "_law_of") (fn := Lw.f__law_of)) n h h1 h2
theorem of_l {r : Nat} {w : PyEv.W} {ds : List D} (n : Nat) (h : PotR (r + 1) w) (h1 : 1 ≤ ds.length) (h2 : ds.length ≤ 1000000) :
    ∃ x w' outs, callF P (n + 2) "_law_of" [w, .lst ds] = .ok (.d x) outs ∧ slot outs 0 = some w' ∧ PotR r w' ∧ x ∈ ds :=
  pot_of_l tk.lk tk.f0 tk.f1 tk.g0 tk.g1 (Has.lk (f := "_law_of") (fn := Lw.f__law_of)) n h h1 h2
/-- .. of a text: one of its signs -/
theorem of_s {r : Nat} {w : PyEv.W} {cs : List Nat} (n : Nat) (h : PotR (r + 1) w) (h1 : 1 ≤ cs.length) (h2 : cs.length ≤ 1000000) :
    ∃ c w' outs, callF P (n + 2) "_law_of" [w, .d (.str (tx cs))] = .ok (.d (.str (tx [c]))) outs ∧ slot outs 0 = some w' ∧ PotR r w' ∧ c ∈ cs := by
  obtain ⟨d, w', o1, e1, hs, hw', d0, d1⟩ := take_n (P := P) n h (u := (cs.length : Int)) (by omega) (by omega)
  obtain ⟨a, b, c, rfl, _⟩ := h
  obtain ⟨c', hx, hm⟩ := at_in (l := cs) d0 d1
  have hz : (tx cs).length ≤ line := by rw [tx_len]; unfold line; omega
  have hix : ixF (.str (tx cs)) (.int d) = some (.str (tx [c'])) := by
    show (if (tx cs).length ≤ line then (L2.atI (tx cs).cps.toList d).map (fun c => D.str ⟨#[c]⟩) else none) = _
    rw [if_pos hz, tx_cps, hx]
    rfl
  rw [← tx_len cs] at e1
  refine ⟨c', w', [some w', some (.d (.str (tx cs)))], callA_of Has.lk rfl ?_, rfl, hw', hm⟩
  show evSs P (callF P (n + 1)) [0, 1] Lw.b__law_of [some (.lst [.int a, .int b, .int c]), some (.d (.str (tx cs)))] = _
  obtain ⟨a', b', c'', rfl, _⟩ := hw'
  unfold Lw.b__law_of
  clear hx hm d0 d1
  repeat infer_instance
variable [Has P "_law_some" Lw.f__law_some]
abbrev someS : Ss := (.cons (.expr (.mut .append 4 (.cons (.mut .popAt 3 (.cons (.call "_law_take" (.cons (.var 0) (.cons (.bi .len (.var 3)) .nil))) .nil)) .nil))) .nil)
omit [Has P "_law_of" Lw.f__law_of] [Has P "_law_some" Lw.f__law_some] in
theorem some_turn {r : Nat} {n : Nat} {w p k o : PyEv.W} {rest found : List D} (h : PotR (r + 1) w) (hk : 1 ≤ rest.length) (hr : rest.length ≤ 1000) (hf : found.length ≤ 1000) :
    ∃ (w' : PyEv.W) (i : Nat) (hi : i < rest.length), evSs P (callF P (n + 1)) [0, 1, 2] someS [some w, some p, some k, some (.lst rest), some (.lst found), some o] = .nx [some w', some p, some k, some (.lst (rest.eraseIdx i)), some (.lst (found ++ [rest[i]])), some o] ∧ PotR r w' := by
  obtain ⟨d, w', o1, e1, hs, hw', d0, d1⟩ := take_n (P := P) (r := r) n h (u := (rest.length : Int)) (by omega) (by omega)
  obtain ⟨a, b, c, rfl, _⟩ := h
  have hkk : d.toNat < rest.length := by omega
  have hix : L2.ixN rest.length d = some d.toNat := by unfold L2.ixN; rw [if_pos d0, if_pos d1]
  have hp : mutF .popAt (.lst rest) [.int d] = some (rest[d.toNat], .lst (rest.eraseIdx d.toNat)) := by
    show (if rest.length ≤ line then _ else _) = _
    rw [if_pos (by unfold line; omega), hix]
    show (rest[d.toNat]?).map _ = _
    rw [List.getElem?_eq_getElem hkk]
    rfl
  have ha : mutF .append (.lst found) [rest[d.toNat]] = some (.non, .lst (found ++ [rest[d.toNat]])) := m_app (by unfold line; omega)
  refine ⟨w', d.toNat, hkk, ?_, hw'⟩
  obtain ⟨a', b', c', rfl, _⟩ := hw'
  generalize rest[d.toNat] = x at hp ha ⊢
  generalize rest.eraseIdx d.toNat = rest' at hp ⊢
  clear hix hkk d0 d1 hk
  unfold someS
  repeat infer_instance
theorem eraseIdx_perm {α : Type} : ∀ (l : List α) (i : Nat) (hi : i < l.length), (l[i] :: l.eraseIdx i).Perm l
  | x :: l, 0, _ => List.Perm.refl _
  | x :: l, i + 1, hi => by
    have := eraseIdx_perm l i (by simpa using hi)
    simp only [List.getElem_cons_succ, List.eraseIdx_cons_succ]
    exact (List.Perm.swap _ _ _).trans (this.cons x)
omit [Has P "_law_of" Lw.f__law_of] in
theorem some_l {r k : Nat} {w : PyEv.W} {ds : List D} (n : Nat) (h : PotR (r + k) w) (hk : k ≤ ds.length) (hd : ds.length ≤ 1000) :
    ∃ found rest w' o1, callF P (n + 2) "_law_some" [w, .lst ds, .d (.int (k : Int))] = .ok (.lst found) (some w' :: o1) ∧ PotR r w' ∧ found.length = k ∧ (found ++ rest).Perm ds := by
  obtain ⟨xs, hr, hl, _⟩ := range_len (k := k) (by omega)
  obtain ⟨env', e, ⟨w', rest, found, o, rfl, hw', hf, hp⟩⟩ := forL_run (keep := [0, 1, 2]) (tg := .one 5) (body := fun env => evSs P (callF P (n + 1)) [0, 1, 2] someS env)
    (fun xs env => ∃ w' rest found o, env = [some w', some (.lst ds), some (.d (.int (k : Int))), some (.lst rest), some (.lst found), o] ∧ PotR (r + xs.length) w' ∧ found.length + xs.length = k ∧ (found ++ rest).Perm ds)
    (fun x xs env ⟨w', rest, found, o, he, hw, hf, hp⟩ => by
      subst he
      simp only [List.length_cons] at hw hf
      have hlen := hp.length_eq
      rw [List.length_append] at hlen
      obtain ⟨w2, i, hi, e2, hw2⟩ := some_turn (P := P) (r := r + xs.length) (n := n) (p := .lst ds) (k := .d (.int (k : Int))) (o := .d x) (rest := rest) (found := found) hw (by omega) (by omega) (by omega)
      refine ⟨[some w', some (.lst ds), some (.d (.int (k : Int))), some (.lst rest), some (.lst found), some (.d x)], _, rfl, e2, w2, rest.eraseIdx i, found ++ [rest[i]], some (.d x), rfl, hw2, by simp; omega, ?_⟩
      rw [List.append_assoc]
      exact (List.Perm.append_left found (eraseIdx_perm rest i hi)).trans hp) xs [some w, some (.lst ds), some (.d (.int (k : Int))), some (.lst ds), some (.lst []), none]
    ⟨w, ds, [], none, rfl, by rw [hl]; exact h, by simp [hl], List.Perm.refl _⟩
  have loop : evS P (callF P (n + 1)) [0, 1, 2] Lw.for__law_some_0 [some w, some (.lst ds), some (.d (.int (k : Int))), some (.lst ds), some (.lst []), none] = .nx [some w', some (.lst ds), some (.d (.int (k : Int))), some (.lst rest), some (.lst found), o] := by
    refine gs_for (P := P) ?_ e
    clear e hp
    repeat infer_instance
  refine ⟨found, rest, w', [some (.lst ds), some (.d (.int (k : Int))), some (.lst rest), none, o], callA_of Has.lk rfl ?_, by simpa using hw', by simpa using hf, hp⟩
  show evSs P (callF P (n + 1)) [0, 1, 2] Lw.b__law_some [some w, some (.lst ds), some (.d (.int (k : Int))), none, none, none] = _
  unfold Lw.b__law_some
  clear e hp
  repeat infer_instance
/-! ### words -/
abbrev pool : List Str := ["ann", "bob", "sees", "s", "row", "not", "like", "is", "a", "zzzzzzzz", "b", "words", "right", "tells"]
theorem pool_named : ∀ s ∈ pool, nameS s = true := by
  have h : pool.all nameS = true := by decide +kernel
  exact List.all_eq_true.mp h
theorem pool_nodup : pool.Nodup := by decide
theorem strs_of : ∀ {l : List D} {p : List Str}, (∀ x ∈ l, x ∈ p.map D.str) → ∃ ws : List Str, l = ws.map D.str ∧ ∀ s ∈ ws, s ∈ p
  | [], _, _ => ⟨[], rfl, fun _ h => by cases h⟩
  | x :: l, p, h => by
    obtain ⟨s, hs, e⟩ := List.mem_map.mp (h x List.mem_cons_self)
    obtain ⟨ws, e2, h2⟩ := strs_of (l := l) (p := p) fun y hy => h y (List.mem_cons_of_mem _ hy)
    exact ⟨s :: ws, by rw [List.map_cons, ← e2, e], fun z hz => by
      rcases List.mem_cons.mp hz with rfl | hz
      · exact hs
      · exact h2 z hz⟩
theorem nodup_str {ws : List Str} (h : ws.Nodup) : (ws.map D.str).Nodup := List.Pairwise.map D.str (fun a b hab e => hab (by injection e)) h
theorem nodup_of_str {ws : List Str} (h : (ws.map D.str).Nodup) : ws.Nodup := by
  have := List.pairwise_map.mp h
  exact this.imp fun hab e => hab (by rw [e])
variable [Has P "_law_words" Lw.f__law_words]
omit [Has P "_law_of" Lw.f__law_of] in
theorem words_l {r : Nat} {w : PyEv.W} {few most : Int} (n : Nat) (h : PotR (r + 15) w) (h0 : 0 ≤ few) (h1 : few ≤ most) (h2 : most ≤ 14) :
    ∃ (ws : List Str) (w' : PyEv.W) (o1 : PyEv.Env), callF P (n + 3) "_law_words" [w, .d (.int few), .d (.int most)] = .ok (.d (.tup (ws.map D.str))) (some w' :: o1) ∧ PotR r w' ∧ few ≤ (ws.length : Int) ∧ (ws.length : Int) ≤ most ∧ (∀ s ∈ ws, s ∈ pool) ∧ ws.Nodup := by
  obtain ⟨d, w1, o1, e1, hs1, hw1, d0, d1⟩ := take_n (P := P) (r := r + 14) (n + 1) h (u := most - few + 1) (by omega) (by omega)
  obtain ⟨a, b, c, rfl, _⟩ := h
  obtain ⟨j, hj⟩ : ∃ j : Nat, few + d = (j : Int) := ⟨(few + d).toNat, by omega⟩
  obtain ⟨found, rest, w2, o2, e2, hw2, hl, hp⟩ := some_l (P := P) (r := r + 14 - j) (k := j) (ds := pool.map D.str) n (hw1.le (by omega)) (by simp [pool]; omega) (by simp [pool])
  rw [← hj] at e2
  obtain ⟨pa, pb, pc, rfl, _⟩ := hw1
  obtain ⟨ws, rfl, hws⟩ := strs_of (l := found) (p := pool) fun x hx => hp.subset (List.mem_append_left _ hx)
  have hnd : ws.Nodup := nodup_of_str ((List.nodup_append.mp (hp.nodup_iff.mpr (nodup_str pool_nodup))).1)
  rw [List.length_map] at hl
  refine ⟨ws, w2, [some (.d (.int few)), some (.d (.int most)), slot (some w2 :: o2) 1], callA_of Has.lk rfl ?_, hw2.le (by omega), by omega, by omega, hws, hnd⟩
  show evSs P (callF P (n + 2)) [0, 1, 2] Lw.b__law_words [some (.lst [.int a, .int b, .int c]), some (.d (.int few)), some (.d (.int most)), none] = _
  unfold Lw.b__law_words
  have e2' : callF P (n + 2) "_law_some" [.lst [.int pa, .int pb, .int pc], .lst [.str "ann", .str "bob", .str "sees", .str "s", .str "row", .str "not", .str "like", .str "is", .str "a", .str "zzzzzzzz", .str "b", .str "words", .str "right", .str "tells"], .d (.int (few + d))] = .ok (.lst (ws.map D.str)) (some w2 :: o2) := e2
  clear hp hws hnd e2 hj hl
  generalize ws.map D.str = wd at e2'
  change callF P (n + 2) _ _ = _ at e1
  repeat infer_instance
/-! ### drawn readings -/
variable [Has P "_law_tree" Lw.f__law_tree]
omit [Has P "_law_some" Lw.f__law_some] [Has P "_law_words" Lw.f__law_words] in
theorem tree_l {ws : List Str} (h1 : 1 ≤ ws.length) (h2 : ws.length ≤ 1000) : ∀ (e : Nat) (m r : Nat) (w : PyEv.W), 1 ≤ e → e + 2 ≤ m → PotR (r + (3 * e - 2)) w →
    ∃ (t : Tr) (w' : PyEv.W) (outs : PyEv.Env), callF P m "_law_tree" [w, .d (.tup (ws.map D.str)), .d (.int (e : Int))] = .ok (.d t.D) outs ∧ slot outs 0 = some w' ∧ PotR r w' ∧ (∀ s ∈ t.ends, s ∈ ws) ∧ t.ends.length = e := by
  intro e
  induction e using Nat.strongRecOn with
  | ind e ih =>
    intro m r w he hm h
    obtain ⟨m, rfl⟩ : ∃ j, m = j + 3 := ⟨m - 3, by omega⟩
    by_cases e1 : e = 1
    · subst e1
      obtain ⟨x, w', o1, e1, hs, hw, hx⟩ := of_t (P := P) (r := r) m h (ds := ws.map D.str) (by rw [List.length_map]; exact h1) (by rw [List.length_map]; omega)
      obtain ⟨s, hs', rfl⟩ := List.mem_map.mp hx
      obtain ⟨a, b, c, rfl, _⟩ := h
      refine ⟨.leaf s, w', [some w', some (.d (.tup (ws.map D.str))), some (.d (.int 1)), none, none], callA_of Has.lk rfl ?_, rfl, hw, fun z hz => ?_, rfl⟩
      · show evSs P (callF P (m + 2)) [0, 1, 2] Lw.b__law_tree [some (.lst [.int a, .int b, .int c]), some (.d (.tup (ws.map D.str))), some (.d (.int 1)), none, none] = _
        obtain ⟨a', b', c', rfl, _⟩ := hw
        unfold Lw.b__law_tree
        clear hx hs'
        generalize ws.map D.str = wd at *
        repeat infer_instance
      · rcases List.mem_singleton.mp hz with rfl; exact hs'
    · obtain ⟨d, w1, o1, c1, hs1, hw1, d0, d1⟩ := take_n (P := P) (r := r + (3 * e - 3)) (m + 1) (h.le (by omega)) (u := (e : Int) - 1) (by omega) (by
        obtain ⟨_, _, cc, _, _, _, _, h5, h6⟩ := h
        omega)
      obtain ⟨d', w2, o2, c2, hs2, hw2, d0', d1'⟩ := take_n (P := P) (r := r + (3 * e - 4)) (m + 1) (hw1.le (by omega)) (u := 2) (by decide) (by decide)
      obtain ⟨k, hk⟩ : ∃ k : Nat, 1 + d = (k : Int) := ⟨(1 + d).toNat, by omega⟩
      obtain ⟨t1, w3, o3, c3, hs3, hw3, g3, l3⟩ := ih k (by omega) (m + 2) (r + (3 * (e - k) - 2)) w2 (by omega) (by omega) (hw2.le (by omega))
      obtain ⟨t2, w4, o4, c4, hs4, hw4, g4, l4⟩ := ih (e - k) (by omega) (m + 2) r w3 (by omega) (by omega) hw3
      have hek : ((e - k : Nat) : Int) = (e : Int) - (1 + d) := by omega
      rw [hek] at c4
      rw [← hk] at c3
      obtain ⟨a, b, c, rfl, _⟩ := h
      obtain ⟨a1, b1, c1', rfl, _⟩ := hw1
      obtain ⟨a2, b2, c2', rfl, _⟩ := hw2
      obtain ⟨a3, b3, c3', rfl, _⟩ := hw3
      have ne1 : ¬ ((e : Int) = 1) := by omega
      obtain ⟨q, hq⟩ : ∃ q : Bool, L2.atI [D.str "right", D.str "left"] d' = some (.str (side q)) := by
        have : d' = 0 ∨ d' = 1 := by omega
        rcases this with rfl | rfl
        · exact ⟨true, rfl⟩
        · exact ⟨false, rfl⟩
      have hws4 := hw4
      obtain ⟨a4, b4, c4', rfl, _⟩ := hws4
      refine ⟨.node q t1 t2, _, [some (.lst [.int a4, .int b4, .int c4']), some (.d (.tup (ws.map D.str))), some (.d (.int (e : Int))), some (.d (.int (1 + d))), some (.d (.str (side q)))], callA_of Has.lk rfl ?_, rfl, hw4, fun z hz => ?_, ?_⟩
      · show evSs P (callF P (m + 2)) [0, 1, 2] Lw.b__law_tree [some (.lst [.int a, .int b, .int c]), some (.d (.tup (ws.map D.str))), some (.d (.int (e : Int))), none, none] = _
        unfold Lw.b__law_tree
        have eD : (Tr.node q t1 t2).D = .tup [.str (side q), t1.D, t2.D] := rfl
        rw [eD]
        clear eD ih g3 g4 l3 l4 hk hek d0 d1 d0' d1' he hm
        generalize ws.map D.str = wd at *
        generalize side q = sq at *
        repeat infer_instance
      · rcases List.mem_append.mp hz with hz | hz
        · exact g3 z hz
        · exact g4 z hz
      · simp only [Tr.ends, List.length_append, l3, l4]; omega
/-! ### odd values -/
abbrev oddA : List D := [.non, .bl true, .bl false, .int 0, .int 1, .int (-1), .int 7, .str "", .str "s", .str "a", .str "is", .str "always", .tup [], .lst [], .dct [] [], .tup [.int 0], .tup [.tup []], .lst [.int 0], .str "A", .tup [.int 0, .int 0]]
abbrev oddB : List D := [.tup [.str "is"], .tup [.str "a", .str "b"], .tup [.str "right", .str "a"], .tup [.tup [], .tup []], .tup [.non], .tup [.bl true], .int 100000000, .tup [.str "row", .tup []], .str "(a b)"]
theorem p108 : binF .pow (.int 10) (.int 8) = some (.d (.int 100000000)) := (binPow (by decide +kernel)).trans rfl
variable [Has P "_law_odd" Lw.f__law_odd]
omit [Has P "_law_some" Lw.f__law_some] [Has P "_law_words" Lw.f__law_words] [Has P "_law_tree" Lw.f__law_tree] in
theorem odd_l {r : Nat} {w : PyEv.W} (n : Nat) (h : PotR (r + 1) w) : ∃ x w' o1, callF P (n + 3) "_law_odd" [w] = .ok (.d x) (some w' :: o1) ∧ PotR r w' ∧ x ∈ oddA ++ oddB := by
  obtain ⟨x, w', o, e1, hs, hw, hx⟩ := of_l (P := P) n h (ds := oddA ++ oddB) (by decide) (by decide)
  obtain ⟨a, b, c, rfl, _⟩ := h
  have h8 := p108
  refine ⟨x, w', [slot o 1], callA_of Has.lk rfl ?_, hw, hx⟩
  show evSs P (callF P (n + 2)) [0] Lw.b__law_odd [some (.lst [.int a, .int b, .int c]), none] = _
  unfold Lw.b__law_odd
  repeat infer_instance
end
end PyEv

set_option maxRecDepth 100000
set_option maxHeartbeats 4000000
/-! PyLwB: the laws' own looks at names, ends, texts; repr and == of trees. -/
namespace PyEv
open PySem
/-! ### comprehensions whose turns change slots; calls that are heard -/
theorem lcL_run {keep : List Nat} {tg : Tg} {own : List (Str × Nat)} {ct : PyEv.Env → Res Bool} {ce : PyEv.Env → Res D} (Q : List D → PyEv.Env → Prop) (N : Nat) : ∀ (xs acc : List D) (env : PyEv.Env), acc.length + xs.length = N →
    (∀ x ∈ xs, ∀ acc env, acc.length < N → Q acc env → ∃ env1 env2 y env3, assignTg keep tg x (wipeE env own) = some env1 ∧ ct env1 = .ok true env2 ∧ ce env2 = .ok y env3 ∧ Q (acc ++ [y]) (wipeE env3 own)) → Q acc env → acc.length + xs.length ≤ line →
    ∃ ys env', lcL keep tg own ct ce xs acc env = .ok ys env' ∧ Q ys env' ∧ ys.length = acc.length + xs.length
  | [], acc, env, _, _, q, _ => ⟨acc, env, by simp [lcL], q, by simp⟩
  | x :: xs, acc, env, hN, h, q, hl => by
    simp only [List.length_cons] at hl hN
    obtain ⟨e1, e2, y, e3, h1, h2, h3, q'⟩ := h x List.mem_cons_self acc env (by omega) q
    obtain ⟨ys, env', ih, qe, hlen⟩ := lcL_run Q N xs (acc ++ [y]) (wipeE e3 own) (by simp only [List.length_append, List.length_cons, List.length_nil]; omega) (fun y hy => h y (List.mem_cons_of_mem _ hy)) q' (by simp only [List.length_append, List.length_cons, List.length_nil]; omega)
    refine ⟨ys, env', ?_, qe, by simp at hlen ⊢; omega⟩
    have hz : acc.length < line := by omega
    simp only [lcL, h1, h2, h3, Res.noX, Res.bind, if_true, hz, ih]
section
variable {P : Prog} {cf : Str → List PyEv.W → CRes} {keep : List Nat} {env env1 env2 env3 : PyEv.Env}
theorem lc_runQ {elt : E} {it : It} {nm : Str} {i : Nat} {xs : List D} (Q : List D → PyEv.Env → Prop) (hi : evIt P cf keep it env = .ok xs env1) (hk : keep.contains i = false) (hQ : ∀ acc e, Q acc e → i < e.length) (hlen : xs.length ≤ line) (h0 : Q [] (env1.set i none))
    (h : ∀ x ∈ xs, ∀ acc e, acc.length < xs.length → Q acc e → ∃ a e2 y e3, evE P cf keep elt (e.set i (some (.d x))) = .ok a e2 ∧ item a e2 = .ok y e3 ∧ Q (acc ++ [y]) (e3.set i none)) :
    ∃ ys env', evE P cf keep (.lc elt (.one i) it .none [(nm, i)]) env = .ok (.val (.lst ys)) env' ∧ Q ys env' ∧ ys.length = xs.length := by
  obtain ⟨ys, env', e, q, hl⟩ := lcL_run (keep := keep) (tg := .one i) (own := [(nm, i)]) (ct := fun env => if E.none.isNone = true then .ok true env else useB (evE P cf keep .none env)) (ce := fun env => (evE P cf keep elt env).bind item) (fun acc env => Q acc (env.set i none)) xs.length xs [] env1 (by simp)
    (fun x hx acc env hlt q => by
      obtain ⟨a, e2, y, e3, h1, h2, h3⟩ := h x hx acc (env.set i none) hlt q
      refine ⟨(env.set i none).set i (some (.d x)), (env.set i none).set i (some (.d x)), y, e3, ?_, rfl, ?_, ?_⟩
      · show store keep i (.d x) (env.set i none) = _
        exact st_ok hk (hQ _ _ q) rfl
      · show (evE P cf keep elt ((env.set i none).set i (some (.d x)))).bind item = _
        rw [h1]
        exact h2
      · show Q (acc ++ [y]) ((e3.set i none).set i none)
        rw [List.set_set]; exact h3) h0 (by simpa using hlen)
  refine ⟨ys, env'.set i none, ?_, q, by simpa using hl⟩
  have w : wipeE env' [(nm, i)] = env'.set i none := rfl
  simp only [evE, hi, Res.bind] at e ⊢
  rw [e]
  simp only [w]
/-- a call of one slot's data, heard -/
theorem heard_ok {h f : Str} {fn : Fn} {i : Nat} {x d : D} {w : PyEv.W} {outs : PyEv.Env} (hs : slot env i = some (.d x)) (hf : P.fns.lookup f = some fn) (hh : P.hears.contains h = true) (hu : P.excs.contains "TypeUnknown" = true) (hc : cf f [.d x] = .ok w outs) (hw : w.frz = d) :
    evE P cf keep (.heard h (.call f (.cons (.var i) .nil))) env = .ok (.val (.d (.tup [.non, d]))) env := by
  refine xheard hh hu (a := .val w) (env1 := env) (xcall hf (aa_c (xv hs) aa_nil) (ba_vr hs (bv_d ba_nil)) hc bk_nil) ?_
  rw [← hw]; rfl
theorem xcallX {es : Es} {f : Str} {fn : Fn} {ars : List Ar} {ws : List PyEv.W} {l : List (Nat × Nat)} {x : D} {outs : PyEv.Env} (hf : P.fns.lookup f = some fn) (ha : evAs P cf keep es env = .ok ars env1) (hb : bindA fn.keep ars 0 env1 = some (ws, env2, l)) (hc : cf f ws = .exc x outs) (hk : backA outs env2 l = env3) :
    evE P cf keep (.call f es) env = .exc x env3 := by
  simp only [evE, hf, ha, Res.bind, callA, hb, hc, hk]
theorem heard_x {h f c : Str} {fn : Fn} {i : Nat} {x y : D} {outs : PyEv.Env} (hs : slot env i = some (.d x)) (hf : P.fns.lookup f = some fn) (hh : P.hears.contains h = true) (hu : P.excs.contains "TypeUnknown" = true) (hx : P.excs.contains c = true) (hc : cf f [.d x] = .exc (.exc c y) outs) :
    evE P cf keep (.heard h (.call f (.cons (.var i) .nil))) env = .ok (.val (.d (.tup [.exc c y, .non]))) env :=
  xheardX hh hu (xcallX hf (aa_c (xv hs) aa_nil) (ba_vr hs (bv_d ba_nil)) hc bk_nil) hx
end
section
variable {P : Prog} {n : Nat} [Has P "_law_is_name" Lw.f__law_is_name]
omit [Has P "_law_is_name" Lw.f__law_is_name] in
theorem lc_law_is_name {cs : List Nat} {o : Option PyEv.W} (hl : cs.length ≤ 1000000) : evE P (callF P n) [0] Lw.lc__law_is_name_0 [some (.d (.str (tx cs))), some (.d (.str "abcdefghijklmnopqrstuvwxyz")), o] = .ok (.val (.lst (cs.map fun c => .bl (letB c)))) [some (.d (.str (tx cs))), some (.d (.str "abcdefghijklmnopqrstuvwxyz")), none] := by
  have hit : evIt P (callF P n) [0] (.seq (.var 0)) [some (.d (.str (tx cs))), some (.d (.str "abcdefghijklmnopqrstuvwxyz")), o] = .ok (cs.map fun c => .str ⟨#[c]⟩) [some (.d (.str (tx cs))), some (.d (.str "abcdefghijklmnopqrstuvwxyz")), o] := by
    have e : itemsF (.str (tx cs)) = some (cs.map fun c => .str ⟨#[c]⟩) := rfl
    simp only [evSs, evS, evE, evIts, evAs, evIt, evJs, Res.bind, Res.fl, Res.of, Fl.then, use, useB, item, take, slot_z, slot_s, nxO, stor, assignTg, W.frz, callA, bindA, bkn, bkc, useAll, C.d, E.isNone, partB, Option.bind, Option.map, Has.lk, Con.gl, Exn.ex, List.length_cons, List.length_nil, List.set_cons_zero, List.set_cons_succ, List.contains_cons, List.contains_nil, beq_iff_eq, Nat.reduceAdd, Nat.reduceLeDiff, Nat.reduceEqDiff, Nat.reduceBEq, Nat.reduceBNe, Int.reduceNeg, if_true, if_false, or_self, or_false, false_or, or_true, true_or, and_self, and_true, true_and, Bool.or_false, Bool.or_true, Bool.false_or, Bool.true_or, Bool.and_true, Bool.true_and, Bool.and_false, Bool.false_and, Bool.false_eq_true, Bool.not_true, Bool.not_false, decide_eq_true_eq, decide_true, decide_false, not_true_eq_false, not_false_eq_true, reduceIte, reduceCtorEq, Bool.not_eq_true', decide_eq_false_iff_not, List.cons_append, List.nil_append, List.append_nil, Nat.zero_le, Int.reduceEq, Int.reduceLT, Int.reduceLE, eq_self, cast0, cast1, cast2, cast3, cast4, cast5, cast6, cast7, cast8, cast9, lit_line, l_str, m_app, m_ext, o_adds, o_addl, o_addt, rv_s, binAdd, binSub, c_lt, c_le, c_gt, c_ge, isN_eq, notN_eq, nin_eq, in_eq, eq_eq2, ne_eq2, eqF_s, eqF_i, xdd, xtt, xll, at0, at1, at2, nn_non, nn_t, nn_l, nn_s, nn_i, nn_b, nn_c, nn_x, l_tup, l_lst, b_tt, b_tl, b_lt, b_ll, b_ii, b_repr2, b_all2, b_any2, rv_t, ty_1, ty_2, ty_3, ty_4, ty_5, ty_6, ty_7, ty_8, ty_9, ty_10, ty_11, ty_12, ty_13, ty_14, ty_15, ty_16, ty_17, ty_18, ty_19, ty_20, ty_21, ty_22, ty_23, ty_24, ty_25, ty_26, ty_27, ty_28, *]
  have e := lc1 (P := P) (cf := callF P n) (keep := [0]) (elt := .cmp .isin (.var 2) (.var 1)) (i := 2) (nm := "_law_one") (env0 := [some (.d (.str (tx cs))), some (.d (.str "abcdefghijklmnopqrstuvwxyz")), none]) (g := fun d => match d with | .str s => .bl (s.cps.toList.all letB) | _ => .non) hit rfl rfl (Nat.le_of_ble_eq_true rfl) (by simp [line]; omega) (fun x hx => by
    obtain ⟨c, _, rfl⟩ := List.mem_map.mp hx
    have hi := isin_sign c
    refine ⟨[some (.d (.str (tx cs))), some (.d (.str "abcdefghijklmnopqrstuvwxyz")), some (.d (.str ⟨#[c]⟩))], .val (.d (.bl (letB c))), [some (.d (.str (tx cs))), some (.d (.str "abcdefghijklmnopqrstuvwxyz")), some (.d (.str ⟨#[c]⟩))], [some (.d (.str (tx cs))), some (.d (.str "abcdefghijklmnopqrstuvwxyz")), some (.d (.str ⟨#[c]⟩))], rfl, ?_, by simp [item, W.frz], rfl⟩
    simp only [evSs, evS, evE, evIts, evAs, evIt, evJs, Res.bind, Res.fl, Res.of, Fl.then, use, useB, item, take, slot_z, slot_s, nxO, stor, assignTg, W.frz, callA, bindA, bkn, bkc, useAll, C.d, E.isNone, partB, Option.bind, Option.map, Has.lk, Con.gl, Exn.ex, List.length_cons, List.length_nil, List.set_cons_zero, List.set_cons_succ, List.contains_cons, List.contains_nil, beq_iff_eq, Nat.reduceAdd, Nat.reduceLeDiff, Nat.reduceEqDiff, Nat.reduceBEq, Nat.reduceBNe, Int.reduceNeg, if_true, if_false, or_self, or_false, false_or, or_true, true_or, and_self, and_true, true_and, Bool.or_false, Bool.or_true, Bool.false_or, Bool.true_or, Bool.and_true, Bool.true_and, Bool.and_false, Bool.false_and, Bool.false_eq_true, Bool.not_true, Bool.not_false, decide_eq_true_eq, decide_true, decide_false, not_true_eq_false, not_false_eq_true, reduceIte, reduceCtorEq, Bool.not_eq_true', decide_eq_false_iff_not, List.cons_append, List.nil_append, List.append_nil, Nat.zero_le, Int.reduceEq, Int.reduceLT, Int.reduceLE, eq_self, cast0, cast1, cast2, cast3, cast4, cast5, cast6, cast7, cast8, cast9, lit_line, l_str, m_app, m_ext, o_adds, o_addl, o_addt, rv_s, binAdd, binSub, c_lt, c_le, c_gt, c_ge, isN_eq, notN_eq, nin_eq, in_eq, eq_eq2, ne_eq2, eqF_s, eqF_i, xdd, xtt, xll, at0, at1, at2, nn_non, nn_t, nn_l, nn_s, nn_i, nn_b, nn_c, nn_x, l_tup, l_lst, b_tt, b_tl, b_lt, b_ll, b_ii, b_repr2, b_all2, b_any2, rv_t, ty_1, ty_2, ty_3, ty_4, ty_5, ty_6, ty_7, ty_8, ty_9, ty_10, ty_11, ty_12, ty_13, ty_14, ty_15, ty_16, ty_17, ty_18, ty_19, ty_20, ty_21, ty_22, ty_23, ty_24, ty_25, ty_26, ty_27, ty_28, *])
  have e2 : (cs.map fun c => D.str ⟨#[c]⟩).map (fun d => match d with | .str s => .bl (s.cps.toList.all letB) | _ => D.non) = cs.map fun c => D.bl (letB c) := by
    rw [List.map_map]
    apply List.map_congr_left
    intro c _
    simp
  rw [e2] at e
  exact e
theorem law_is_name_s {cs : List Nat} (hl : cs.length ≤ 1000000) : Ret P (n + 1) "_law_is_name" [.d (.str (tx cs))] (.d (.bl (nmB cs))) := by
  have hlc := lc_law_is_name (P := P) (n := n) (o := none) hl
  have hall := allBl_map letB cs
  have hz : (tx cs).length ≤ line := by simp [line]; omega
  refine ret_x Has.lk rfl ?_
  show ∃ v e, evSs P (callF P n) [0] Lw.b__law_is_name [some (.d (.str (tx cs))), none, none] = .rt v e ∧ v = _
  unfold Lw.b__law_is_name
  by_cases h1 : (0 : Int) < ((tx cs).length : Int)
  · by_cases h8 : ((tx cs).length : Int) < 9
    · have g1 : 1 ≤ cs.length := by simp at h1; omega
      have g8 : cs.length ≤ 8 := by simp at h8; omega
      simp only [evSs, evS, evE, evIts, evAs, evIt, evJs, Res.bind, Res.fl, Res.of, Fl.then, use, useB, item, take, slot_z, slot_s, nxO, stor, assignTg, W.frz, callA, bindA, bkn, bkc, useAll, C.d, E.isNone, partB, Option.bind, Option.map, Has.lk, Con.gl, Exn.ex, List.length_cons, List.length_nil, List.set_cons_zero, List.set_cons_succ, List.contains_cons, List.contains_nil, beq_iff_eq, Nat.reduceAdd, Nat.reduceLeDiff, Nat.reduceEqDiff, Nat.reduceBEq, Nat.reduceBNe, Int.reduceNeg, if_true, if_false, or_self, or_false, false_or, or_true, true_or, and_self, and_true, true_and, Bool.or_false, Bool.or_true, Bool.false_or, Bool.true_or, Bool.and_true, Bool.true_and, Bool.and_false, Bool.false_and, Bool.false_eq_true, Bool.not_true, Bool.not_false, decide_eq_true_eq, decide_true, decide_false, not_true_eq_false, not_false_eq_true, reduceIte, reduceCtorEq, Bool.not_eq_true', decide_eq_false_iff_not, List.cons_append, List.nil_append, List.append_nil, Nat.zero_le, Int.reduceEq, Int.reduceLT, Int.reduceLE, eq_self, cast0, cast1, cast2, cast3, cast4, cast5, cast6, cast7, cast8, cast9, lit_line, l_str, m_app, m_ext, o_adds, o_addl, o_addt, rv_s, binAdd, binSub, c_lt, c_le, c_gt, c_ge, isN_eq, notN_eq, nin_eq, in_eq, eq_eq2, ne_eq2, eqF_s, eqF_i, xdd, xtt, xll, at0, at1, at2, nn_non, nn_t, nn_l, nn_s, nn_i, nn_b, nn_c, nn_x, l_tup, l_lst, b_tt, b_tl, b_lt, b_ll, b_ii, b_repr2, b_all2, b_any2, rv_t, ty_1, ty_2, ty_3, ty_4, ty_5, ty_6, ty_7, ty_8, ty_9, ty_10, ty_11, ty_12, ty_13, ty_14, ty_15, ty_16, ty_17, ty_18, ty_19, ty_20, ty_21, ty_22, ty_23, ty_24, ty_25, ty_26, ty_27, ty_28, *]
      refine ⟨_, _, rfl, ?_⟩
      simp [nmB, g1, g8]
    · have g8 : ¬ cs.length ≤ 8 := by simp at h8; omega
      simp only [evSs, evS, evE, evIts, evAs, evIt, evJs, Res.bind, Res.fl, Res.of, Fl.then, use, useB, item, take, slot_z, slot_s, nxO, stor, assignTg, W.frz, callA, bindA, bkn, bkc, useAll, C.d, E.isNone, partB, Option.bind, Option.map, Has.lk, Con.gl, Exn.ex, List.length_cons, List.length_nil, List.set_cons_zero, List.set_cons_succ, List.contains_cons, List.contains_nil, beq_iff_eq, Nat.reduceAdd, Nat.reduceLeDiff, Nat.reduceEqDiff, Nat.reduceBEq, Nat.reduceBNe, Int.reduceNeg, if_true, if_false, or_self, or_false, false_or, or_true, true_or, and_self, and_true, true_and, Bool.or_false, Bool.or_true, Bool.false_or, Bool.true_or, Bool.and_true, Bool.true_and, Bool.and_false, Bool.false_and, Bool.false_eq_true, Bool.not_true, Bool.not_false, decide_eq_true_eq, decide_true, decide_false, not_true_eq_false, not_false_eq_true, reduceIte, reduceCtorEq, Bool.not_eq_true', decide_eq_false_iff_not, List.cons_append, List.nil_append, List.append_nil, Nat.zero_le, Int.reduceEq, Int.reduceLT, Int.reduceLE, eq_self, cast0, cast1, cast2, cast3, cast4, cast5, cast6, cast7, cast8, cast9, lit_line, l_str, m_app, m_ext, o_adds, o_addl, o_addt, rv_s, binAdd, binSub, c_lt, c_le, c_gt, c_ge, isN_eq, notN_eq, nin_eq, in_eq, eq_eq2, ne_eq2, eqF_s, eqF_i, xdd, xtt, xll, at0, at1, at2, nn_non, nn_t, nn_l, nn_s, nn_i, nn_b, nn_c, nn_x, l_tup, l_lst, b_tt, b_tl, b_lt, b_ll, b_ii, b_repr2, b_all2, b_any2, rv_t, ty_1, ty_2, ty_3, ty_4, ty_5, ty_6, ty_7, ty_8, ty_9, ty_10, ty_11, ty_12, ty_13, ty_14, ty_15, ty_16, ty_17, ty_18, ty_19, ty_20, ty_21, ty_22, ty_23, ty_24, ty_25, ty_26, ty_27, ty_28, *]
      refine ⟨_, _, rfl, ?_⟩
      simp [nmB, g8]
  · have g1 : ¬ 1 ≤ cs.length := by rw [tx_len] at h1; omega
    simp only [evSs, evS, evE, evIts, evAs, evIt, evJs, Res.bind, Res.fl, Res.of, Fl.then, use, useB, item, take, slot_z, slot_s, nxO, stor, assignTg, W.frz, callA, bindA, bkn, bkc, useAll, C.d, E.isNone, partB, Option.bind, Option.map, Has.lk, Con.gl, Exn.ex, List.length_cons, List.length_nil, List.set_cons_zero, List.set_cons_succ, List.contains_cons, List.contains_nil, beq_iff_eq, Nat.reduceAdd, Nat.reduceLeDiff, Nat.reduceEqDiff, Nat.reduceBEq, Nat.reduceBNe, Int.reduceNeg, if_true, if_false, or_self, or_false, false_or, or_true, true_or, and_self, and_true, true_and, Bool.or_false, Bool.or_true, Bool.false_or, Bool.true_or, Bool.and_true, Bool.true_and, Bool.and_false, Bool.false_and, Bool.false_eq_true, Bool.not_true, Bool.not_false, decide_eq_true_eq, decide_true, decide_false, not_true_eq_false, not_false_eq_true, reduceIte, reduceCtorEq, Bool.not_eq_true', decide_eq_false_iff_not, List.cons_append, List.nil_append, List.append_nil, Nat.zero_le, Int.reduceEq, Int.reduceLT, Int.reduceLE, eq_self, cast0, cast1, cast2, cast3, cast4, cast5, cast6, cast7, cast8, cast9, lit_line, l_str, m_app, m_ext, o_adds, o_addl, o_addt, rv_s, binAdd, binSub, c_lt, c_le, c_gt, c_ge, isN_eq, notN_eq, nin_eq, in_eq, eq_eq2, ne_eq2, eqF_s, eqF_i, xdd, xtt, xll, at0, at1, at2, nn_non, nn_t, nn_l, nn_s, nn_i, nn_b, nn_c, nn_x, l_tup, l_lst, b_tt, b_tl, b_lt, b_ll, b_ii, b_repr2, b_all2, b_any2, rv_t, ty_1, ty_2, ty_3, ty_4, ty_5, ty_6, ty_7, ty_8, ty_9, ty_10, ty_11, ty_12, ty_13, ty_14, ty_15, ty_16, ty_17, ty_18, ty_19, ty_20, ty_21, ty_22, ty_23, ty_24, ty_25, ty_26, ty_27, ty_28, *]
    refine ⟨_, _, rfl, ?_⟩
    simp [nmB, g1]
theorem law_is_name_no {x : D} (hx : D.isTy .str x = some false) : Ret P (n + 1) "_law_is_name" [.d x] (.d (.bl false)) := by
  refine ret_x Has.lk rfl ?_
  show ∃ v e, evSs P (callF P n) [0] Lw.b__law_is_name [some (.d x), none, none] = .rt v e ∧ v = _
  unfold Lw.b__law_is_name
  simp only [evSs, evS, evE, evIts, evAs, evIt, evJs, Res.bind, Res.fl, Res.of, Fl.then, use, useB, item, take, slot_z, slot_s, nxO, stor, assignTg, W.frz, callA, bindA, bkn, bkc, useAll, C.d, E.isNone, partB, Option.bind, Option.map, Has.lk, Con.gl, Exn.ex, List.length_cons, List.length_nil, List.set_cons_zero, List.set_cons_succ, List.contains_cons, List.contains_nil, beq_iff_eq, Nat.reduceAdd, Nat.reduceLeDiff, Nat.reduceEqDiff, Nat.reduceBEq, Nat.reduceBNe, Int.reduceNeg, if_true, if_false, or_self, or_false, false_or, or_true, true_or, and_self, and_true, true_and, Bool.or_false, Bool.or_true, Bool.false_or, Bool.true_or, Bool.and_true, Bool.true_and, Bool.and_false, Bool.false_and, Bool.false_eq_true, Bool.not_true, Bool.not_false, decide_eq_true_eq, decide_true, decide_false, not_true_eq_false, not_false_eq_true, reduceIte, reduceCtorEq, Bool.not_eq_true', decide_eq_false_iff_not, List.cons_append, List.nil_append, List.append_nil, Nat.zero_le, Int.reduceEq, Int.reduceLT, Int.reduceLE, eq_self, cast0, cast1, cast2, cast3, cast4, cast5, cast6, cast7, cast8, cast9, lit_line, l_str, m_app, m_ext, o_adds, o_addl, o_addt, rv_s, binAdd, binSub, c_lt, c_le, c_gt, c_ge, isN_eq, notN_eq, nin_eq, in_eq, eq_eq2, ne_eq2, eqF_s, eqF_i, xdd, xtt, xll, at0, at1, at2, nn_non, nn_t, nn_l, nn_s, nn_i, nn_b, nn_c, nn_x, l_tup, l_lst, b_tt, b_tl, b_lt, b_ll, b_ii, b_repr2, b_all2, b_any2, rv_t, ty_1, ty_2, ty_3, ty_4, ty_5, ty_6, ty_7, ty_8, ty_9, ty_10, ty_11, ty_12, ty_13, ty_14, ty_15, ty_16, ty_17, ty_18, ty_19, ty_20, ty_21, ty_22, ty_23, ty_24, ty_25, ty_26, ty_27, ty_28, *]
  refine ⟨_, _, rfl, ?_⟩
  rfl
theorem law_is_name_d {x : D} (hx : Pd x = true) : Ret P (n + 1) "_law_is_name" [.d x] (.d (.bl (isNameD x))) := by
  cases x with
  | str s =>
    have h := law_is_name_s (P := P) (n := n) (cs := s.cps.toList) (by have := Pd_str hx; rw [str_len] at this; exact this)
    exact h
  | _ => first | (exact law_is_name_no rfl) | (simp [Pd] at hx; done)
end
section
variable {P : Prog} [Has P "_law_ends" Lw.f__law_ends]
theorem law_ends_t : ∀ (t : Tr) (n : Nat), t.depth < n → t.ends.length ≤ 1000000 → Ret P n "_law_ends" [.d t.D] (.lst (t.ends.map D.str))
  | .leaf s, n + 1, h, _ => by
    refine ret_x Has.lk rfl ?_
    show ∃ v e, evSs P (callF P n) [0] Lw.b__law_ends [some (.d (.str s))] = .rt v e ∧ v = _
    unfold Lw.b__law_ends
    simp only [evSs, evS, evE, evIts, evAs, evIt, evJs, Res.bind, Res.fl, Res.of, Fl.then, use, useB, item, take, slot_z, slot_s, nxO, stor, assignTg, W.frz, callA, bindA, bkn, bkc, useAll, C.d, E.isNone, partB, Option.bind, Option.map, Has.lk, Con.gl, Exn.ex, List.length_cons, List.length_nil, List.set_cons_zero, List.set_cons_succ, List.contains_cons, List.contains_nil, beq_iff_eq, Nat.reduceAdd, Nat.reduceLeDiff, Nat.reduceEqDiff, Nat.reduceBEq, Nat.reduceBNe, Int.reduceNeg, if_true, if_false, or_self, or_false, false_or, or_true, true_or, and_self, and_true, true_and, Bool.or_false, Bool.or_true, Bool.false_or, Bool.true_or, Bool.and_true, Bool.true_and, Bool.and_false, Bool.false_and, Bool.false_eq_true, Bool.not_true, Bool.not_false, decide_eq_true_eq, decide_true, decide_false, not_true_eq_false, not_false_eq_true, reduceIte, reduceCtorEq, Bool.not_eq_true', decide_eq_false_iff_not, List.cons_append, List.nil_append, List.append_nil, Nat.zero_le, Int.reduceEq, Int.reduceLT, Int.reduceLE, eq_self, cast0, cast1, cast2, cast3, cast4, cast5, cast6, cast7, cast8, cast9, lit_line, l_str, m_app, m_ext, o_adds, o_addl, o_addt, rv_s, binAdd, binSub, c_lt, c_le, c_gt, c_ge, isN_eq, notN_eq, nin_eq, in_eq, eq_eq2, ne_eq2, eqF_s, eqF_i, xdd, xtt, xll, at0, at1, at2, nn_non, nn_t, nn_l, nn_s, nn_i, nn_b, nn_c, nn_x, l_tup, l_lst, b_tt, b_tl, b_lt, b_ll, b_ii, b_repr2, b_all2, b_any2, rv_t, ty_1, ty_2, ty_3, ty_4, ty_5, ty_6, ty_7, ty_8, ty_9, ty_10, ty_11, ty_12, ty_13, ty_14, ty_15, ty_16, ty_17, ty_18, ty_19, ty_20, ty_21, ty_22, ty_23, ty_24, ty_25, ty_26, ty_27, ty_28, *]
    refine ⟨_, _, rfl, ?_⟩
    rfl
  | .node r a b, n + 1, h, hl => by
    simp only [Tr.depth, Tr.ends, List.length_append] at h hl
    obtain ⟨o1, h1⟩ := law_ends_t a n (by omega) (by omega)
    obtain ⟨o2, h2⟩ := law_ends_t b n (by omega) (by omega)
    refine ret_x Has.lk rfl ?_
    show ∃ v e, evSs P (callF P n) [0] Lw.b__law_ends [some (.d (.tup [.str (side r), a.D, b.D]))] = .rt v e ∧ v = _
    unfold Lw.b__law_ends
    have hz : (a.ends.map D.str).length + (b.ends.map D.str).length ≤ line := by simp [line]; omega
    simp only [evSs, evS, evE, evIts, evAs, evIt, evJs, Res.bind, Res.fl, Res.of, Fl.then, use, useB, item, take, slot_z, slot_s, nxO, stor, assignTg, W.frz, callA, bindA, bkn, bkc, useAll, C.d, E.isNone, partB, Option.bind, Option.map, Has.lk, Con.gl, Exn.ex, List.length_cons, List.length_nil, List.set_cons_zero, List.set_cons_succ, List.contains_cons, List.contains_nil, beq_iff_eq, Nat.reduceAdd, Nat.reduceLeDiff, Nat.reduceEqDiff, Nat.reduceBEq, Nat.reduceBNe, Int.reduceNeg, if_true, if_false, or_self, or_false, false_or, or_true, true_or, and_self, and_true, true_and, Bool.or_false, Bool.or_true, Bool.false_or, Bool.true_or, Bool.and_true, Bool.true_and, Bool.and_false, Bool.false_and, Bool.false_eq_true, Bool.not_true, Bool.not_false, decide_eq_true_eq, decide_true, decide_false, not_true_eq_false, not_false_eq_true, reduceIte, reduceCtorEq, Bool.not_eq_true', decide_eq_false_iff_not, List.cons_append, List.nil_append, List.append_nil, Nat.zero_le, Int.reduceEq, Int.reduceLT, Int.reduceLE, eq_self, cast0, cast1, cast2, cast3, cast4, cast5, cast6, cast7, cast8, cast9, lit_line, l_str, m_app, m_ext, o_adds, o_addl, o_addt, rv_s, binAdd, binSub, c_lt, c_le, c_gt, c_ge, isN_eq, notN_eq, nin_eq, in_eq, eq_eq2, ne_eq2, eqF_s, eqF_i, xdd, xtt, xll, at0, at1, at2, nn_non, nn_t, nn_l, nn_s, nn_i, nn_b, nn_c, nn_x, l_tup, l_lst, b_tt, b_tl, b_lt, b_ll, b_ii, b_repr2, b_all2, b_any2, rv_t, ty_1, ty_2, ty_3, ty_4, ty_5, ty_6, ty_7, ty_8, ty_9, ty_10, ty_11, ty_12, ty_13, ty_14, ty_15, ty_16, ty_17, ty_18, ty_19, ty_20, ty_21, ty_22, ty_23, ty_24, ty_25, ty_26, ty_27, ty_28, *]
    refine ⟨_, _, rfl, ?_⟩
    simp [Tr.ends]
end
theorem o_tx {a b : List Nat} (h : a.length + b.length ≤ 1000000) : binF .add (.str (tx a)) (.str (tx b)) = some (.d (.str (tx (a ++ b)))) := by
  rw [← tx_app]
  exact o_adds (by rw [tx_len, tx_len]; unfold line; omega)
section
variable {P : Prog} [Has P "_law_spelled" Lw.f__law_spelled]
theorem law_spelled_t : ∀ (t : Tr) (n : Nat), t.depth < n → t.named → t.ends.length ≤ 10000 → Ret P n "_law_spelled" [.d t.D] (.d (.str (tx t.sp)))
  | .leaf s, n + 1, h, _, _ => by
    refine ret_x Has.lk rfl ?_
    show ∃ v e, evSs P (callF P n) [0] Lw.b__law_spelled [some (.d (.str s)), none] = .rt v e ∧ v = _
    unfold Lw.b__law_spelled
    simp only [evSs, evS, evE, evIts, evAs, evIt, evJs, Res.bind, Res.fl, Res.of, Fl.then, use, useB, item, take, slot_z, slot_s, nxO, stor, assignTg, W.frz, callA, bindA, bkn, bkc, useAll, C.d, E.isNone, partB, Option.bind, Option.map, Has.lk, Con.gl, Exn.ex, List.length_cons, List.length_nil, List.set_cons_zero, List.set_cons_succ, List.contains_cons, List.contains_nil, beq_iff_eq, Nat.reduceAdd, Nat.reduceLeDiff, Nat.reduceEqDiff, Nat.reduceBEq, Nat.reduceBNe, Int.reduceNeg, if_true, if_false, or_self, or_false, false_or, or_true, true_or, and_self, and_true, true_and, Bool.or_false, Bool.or_true, Bool.false_or, Bool.true_or, Bool.and_true, Bool.true_and, Bool.and_false, Bool.false_and, Bool.false_eq_true, Bool.not_true, Bool.not_false, decide_eq_true_eq, decide_true, decide_false, not_true_eq_false, not_false_eq_true, reduceIte, reduceCtorEq, Bool.not_eq_true', decide_eq_false_iff_not, List.cons_append, List.nil_append, List.append_nil, Nat.zero_le, Int.reduceEq, Int.reduceLT, Int.reduceLE, eq_self, cast0, cast1, cast2, cast3, cast4, cast5, cast6, cast7, cast8, cast9, lit_line, l_str, m_app, m_ext, o_adds, o_addl, o_addt, rv_s, binAdd, binSub, c_lt, c_le, c_gt, c_ge, isN_eq, notN_eq, nin_eq, in_eq, eq_eq2, ne_eq2, eqF_s, eqF_i, xdd, xtt, xll, at0, at1, at2, nn_non, nn_t, nn_l, nn_s, nn_i, nn_b, nn_c, nn_x, l_tup, l_lst, b_tt, b_tl, b_lt, b_ll, b_ii, b_repr2, b_all2, b_any2, rv_t, ty_1, ty_2, ty_3, ty_4, ty_5, ty_6, ty_7, ty_8, ty_9, ty_10, ty_11, ty_12, ty_13, ty_14, ty_15, ty_16, ty_17, ty_18, ty_19, ty_20, ty_21, ty_22, ty_23, ty_24, ty_25, ty_26, ty_27, ty_28, *]
    refine ⟨_, _, rfl, ?_⟩
    rfl
  | .node r a b, n + 1, h, g, hl => by
    have l1 := sp_len a (named_node.mp g).1
    have l2 := sp_len b (named_node.mp g).2
    simp only [Tr.depth, Tr.ends, List.length_append] at h hl
    obtain ⟨o1, h1⟩ := law_spelled_t a n (by omega) (named_node.mp g).1 (by omega)
    obtain ⟨o2, h2⟩ := law_spelled_t b n (by omega) (named_node.mp g).2 (by omega)
    have z1 : binF .add (.str (tx [op r])) (.str (tx a.sp)) = some (.d (.str (tx (op r :: a.sp)))) := o_tx (by simp; omega)
    have z2 : binF .add (.str (tx (op r :: a.sp))) (.str " ") = some (.d (.str (tx (op r :: a.sp ++ [32])))) := o_tx (b := [32]) (by simp; omega)
    have z3 : binF .add (.str (tx (op r :: a.sp ++ [32]))) (.str (tx b.sp)) = some (.d (.str (tx (op r :: a.sp ++ [32] ++ b.sp)))) := o_tx (by simp; omega)
    have z4 : binF .add (.str (tx (op r :: a.sp ++ [32] ++ b.sp))) (.str (tx [cl r])) = some (.d (.str (tx (op r :: a.sp ++ [32] ++ b.sp ++ [cl r])))) := o_tx (by simp; omega)
    have ef : tx (op r :: a.sp ++ [32] ++ b.sp ++ [cl r]) = tx (Tr.node r a b).sp := by rw [tx_inj]; simp [Tr.sp]
    rw [ef] at z4
    clear ef
    refine ret_x Has.lk rfl ?_
    show ∃ v e, evSs P (callF P n) [0] Lw.b__law_spelled [some (.d (.tup [.str (side r), a.D, b.D])), none] = .rt v e ∧ v = _
    unfold Lw.b__law_spelled
    generalize tx (op r :: a.sp ++ [32] ++ b.sp) = x3 at *
    generalize tx (op r :: a.sp ++ [32]) = x2 at *
    generalize tx (op r :: a.sp) = x1 at *
    generalize tx (Tr.node r a b).sp = x4 at *
    generalize tx a.sp = xa at *
    generalize tx b.sp = xb at *
    cases r
    · have i0 : ixF (.str "[]") (.int 0) = some (.str (tx [op false])) := rfl
      have i1 : ixF (.str "[]") (.int 1) = some (.str (tx [cl false])) := rfl
      have hs : ¬ ((side false : Str) = "right") := by decide
      generalize tx [op false] = y0 at *
      generalize tx [cl false] = y1 at *
      generalize side false = sd at *
      simp only [evSs, evS, evE, evIts, evAs, evIt, evJs, Res.bind, Res.fl, Res.of, Fl.then, use, useB, item, take, slot_z, slot_s, nxO, stor, assignTg, W.frz, callA, bindA, bkn, bkc, useAll, C.d, E.isNone, partB, Option.bind, Option.map, Has.lk, Con.gl, Exn.ex, List.length_cons, List.length_nil, List.set_cons_zero, List.set_cons_succ, List.contains_cons, List.contains_nil, beq_iff_eq, Nat.reduceAdd, Nat.reduceLeDiff, Nat.reduceEqDiff, Nat.reduceBEq, Nat.reduceBNe, Int.reduceNeg, if_true, if_false, or_self, or_false, false_or, or_true, true_or, and_self, and_true, true_and, Bool.or_false, Bool.or_true, Bool.false_or, Bool.true_or, Bool.and_true, Bool.true_and, Bool.and_false, Bool.false_and, Bool.false_eq_true, Bool.not_true, Bool.not_false, decide_eq_true_eq, decide_true, decide_false, not_true_eq_false, not_false_eq_true, reduceIte, reduceCtorEq, Bool.not_eq_true', decide_eq_false_iff_not, List.cons_append, List.nil_append, List.append_nil, Nat.zero_le, Int.reduceEq, Int.reduceLT, Int.reduceLE, eq_self, cast0, cast1, cast2, cast3, cast4, cast5, cast6, cast7, cast8, cast9, lit_line, l_str, m_app, m_ext, o_adds, o_addl, o_addt, rv_s, binAdd, binSub, c_lt, c_le, c_gt, c_ge, isN_eq, notN_eq, nin_eq, in_eq, eq_eq2, ne_eq2, eqF_s, eqF_i, xdd, xtt, xll, at0, at1, at2, nn_non, nn_t, nn_l, nn_s, nn_i, nn_b, nn_c, nn_x, l_tup, l_lst, b_tt, b_tl, b_lt, b_ll, b_ii, b_repr2, b_all2, b_any2, rv_t, ty_1, ty_2, ty_3, ty_4, ty_5, ty_6, ty_7, ty_8, ty_9, ty_10, ty_11, ty_12, ty_13, ty_14, ty_15, ty_16, ty_17, ty_18, ty_19, ty_20, ty_21, ty_22, ty_23, ty_24, ty_25, ty_26, ty_27, ty_28, *]
      refine ⟨_, _, rfl, ?_⟩
      rfl
    · have i0 : ixF (.str "()") (.int 0) = some (.str (tx [op true])) := rfl
      have i1 : ixF (.str "()") (.int 1) = some (.str (tx [cl true])) := rfl
      have hs : ((side true : Str) = "right") := by decide
      generalize tx [op true] = y0 at *
      generalize tx [cl true] = y1 at *
      simp only [evSs, evS, evE, evIts, evAs, evIt, evJs, Res.bind, Res.fl, Res.of, Fl.then, use, useB, item, take, slot_z, slot_s, nxO, stor, assignTg, W.frz, callA, bindA, bkn, bkc, useAll, C.d, E.isNone, partB, Option.bind, Option.map, Has.lk, Con.gl, Exn.ex, List.length_cons, List.length_nil, List.set_cons_zero, List.set_cons_succ, List.contains_cons, List.contains_nil, beq_iff_eq, Nat.reduceAdd, Nat.reduceLeDiff, Nat.reduceEqDiff, Nat.reduceBEq, Nat.reduceBNe, Int.reduceNeg, if_true, if_false, or_self, or_false, false_or, or_true, true_or, and_self, and_true, true_and, Bool.or_false, Bool.or_true, Bool.false_or, Bool.true_or, Bool.and_true, Bool.true_and, Bool.and_false, Bool.false_and, Bool.false_eq_true, Bool.not_true, Bool.not_false, decide_eq_true_eq, decide_true, decide_false, not_true_eq_false, not_false_eq_true, reduceIte, reduceCtorEq, Bool.not_eq_true', decide_eq_false_iff_not, List.cons_append, List.nil_append, List.append_nil, Nat.zero_le, Int.reduceEq, Int.reduceLT, Int.reduceLE, eq_self, cast0, cast1, cast2, cast3, cast4, cast5, cast6, cast7, cast8, cast9, lit_line, l_str, m_app, m_ext, o_adds, o_addl, o_addt, rv_s, binAdd, binSub, c_lt, c_le, c_gt, c_ge, isN_eq, notN_eq, nin_eq, in_eq, eq_eq2, ne_eq2, eqF_s, eqF_i, xdd, xtt, xll, at0, at1, at2, nn_non, nn_t, nn_l, nn_s, nn_i, nn_b, nn_c, nn_x, l_tup, l_lst, b_tt, b_tl, b_lt, b_ll, b_ii, b_repr2, b_all2, b_any2, rv_t, ty_1, ty_2, ty_3, ty_4, ty_5, ty_6, ty_7, ty_8, ty_9, ty_10, ty_11, ty_12, ty_13, ty_14, ty_15, ty_16, ty_17, ty_18, ty_19, ty_20, ty_21, ty_22, ty_23, ty_24, ty_25, ty_26, ty_27, ty_28, *]
      refine ⟨_, _, rfl, ?_⟩
      rfl
end
/-! ### repr, == of trees -/
def Tr.py : Tr → PyData
  | .leaf s => .str s
  | .node r a b => .tuple [.str (side r), a.py, b.py]
theorem D_py : ∀ t : Tr, t.D.py = some t.py
  | .leaf _ => rfl
  | .node r a b => by simp [Tr.D, Tr.py, D.py, D.pyL, D_py a, D_py b]
theorem side_ok {r : Bool} : okP (.str (side r)) = true := by cases r <;> decide
theorem letB_lt {c : Nat} (h : letB c = true) : c < 128 := by have := letB_iff.mp h; omega
theorem name_ok {s : Str} (h : nameS s = true) : okP (.str s) = true := by
  obtain ⟨_, _, hw⟩ := name_len h
  simp only [okP, List.all_eq_true, decide_eq_true_eq]
  intro c hc
  have := letB_lt (hw c hc)
  omega
theorem py_ok : ∀ t : Tr, t.named → okP t.py = true
  | .leaf s, g => name_ok (named_leaf g)
  | .node r a b, g => by
    have h1 := py_ok a (named_node.mp g).1
    have h2 := py_ok b (named_node.mp g).2
    have h3 := side_ok (r := r)
    simp only [Tr.py, okP, okPs, h1, h2, Bool.and_true] at h3 ⊢
    exact h3
theorem py_rb : ∀ t : Tr, t.named → rb t.py + 61 ≤ 143 * t.ends.length
  | .leaf s, g => by
    have := (name_len (named_leaf g)).2.1
    have e : s.length = s.cps.toList.length := by simp [Str.length]
    simp only [Tr.py, rb, Tr.ends, List.length_cons, List.length_nil, e]; omega
  | .node r a b, g => by
    have h1 := py_rb a (named_node.mp g).1
    have h2 := py_rb b (named_node.mp g).2
    have h3 : (side r).length ≤ 5 := by cases r <;> decide
    simp only [Tr.py, rb, rbs, Tr.ends, List.length_append]; omega
theorem py_depth : ∀ t : Tr, t.py.depth ≤ t.depth
  | .leaf s => by simp [Tr.py, PyData.depth]
  | .node r a b => by
    have h1 := py_depth a
    have h2 := py_depth b
    simp only [Tr.py, PyData.depth, PyData.depthAll, Tr.depth]; omega
theorem D_repr {t : Tr} (g : t.named) (hl : t.ends.length ≤ 60) : ∃ z, reprF t.D = some (.str z) :=
  ⟨_, reprF_some (D_py t) (py_ok t g) (by have := py_rb t g; simp only [line]; omega) (by have := py_depth t; have := depth_lt t; omega)⟩
theorem D_eq {t : Tr} (g : t.named) (hl : t.ends.length ≤ 60) : eqF t.D t.D = some true := eqF_refl (D_py t) (py_ok t g) (by have := py_depth t; have := depth_lt t; omega)
end PyEv

set_option maxRecDepth 100000
namespace K02
open PyEv PySem
def lc_is_name_0 : E := (.lc (.cmp .isin (.var 1) (.glob "LETTERS")) (.one 1) (.seq (.var 0)) .none [("sign", 1)])
/-- is_name -/
def b_is_name : Ss := (.cons (.ret (.and (.isi (.var 0) .str) (.and (.chain .le .le (.k (.int 1)) (.bi .len (.var 0)) (.glob "LONGEST_NAME")) (.bi .all lc_is_name_0)))) .nil)
def f_is_name : Fn := ⟨1, 2, [0], b_is_name⟩
/-- is_threefold -/
def b_is_threefold : Ss := (.cons (.ret (.and (.isi (.var 0) .tuple) (.and (.cmp .eq (.bi .len (.var 0)) (.k (.int 3))) (.and (.isi (.ix (.var 0) (.k (.int 0))) .str) (.cmp .isin (.ix (.var 0) (.k (.int 0))) (.glob "OTHER_SIDE")))))) .nil)
def f_is_threefold : Fn := ⟨1, 1, [0], b_is_threefold⟩
/-- is_tree -/
def b_is_tree : Ss := (.cons (.ret (.or (.call "is_name" (.cons (.var 0) .nil)) (.and (.call "is_threefold" (.cons (.var 0) .nil)) (.and (.call "is_tree" (.cons (.ix (.var 0) (.k (.int 1))) .nil)) (.call "is_tree" (.cons (.ix (.var 0) (.k (.int 2))) .nil)))))) .nil)
def f_is_tree : Fn := ⟨1, 1, [0], b_is_tree⟩
/-- ends_of -/
def b_ends_of : Ss := (.cons (.ife (.isi (.var 0) .str) (.cons (.ret (.lst (.cons (.var 0) .nil))) .nil) .nil) (.cons (.ret (.bin .add (.call "ends_of" (.cons (.ix (.var 0) (.k (.int 1))) .nil)) (.call "ends_of" (.cons (.ix (.var 0) (.k (.int 2))) .nil)))) .nil))
def f_ends_of : Fn := ⟨1, 1, [0], b_ends_of⟩
/-- is_reading -/
def b_is_reading : Ss := (.cons (.ret (.and (.call "is_tree" (.cons (.var 0) .nil)) (.cmp .le (.bi .len (.call "ends_of" (.cons (.var 0) .nil))) (.glob "MOST_ENDS")))) .nil)
def f_is_reading : Fn := ⟨1, 1, [0], b_is_reading⟩
def whl_read_name_0 : S := (.whl (.and (.cmp .lt (.var 2) (.bi .len (.var 0))) (.cmp .isin (.ix (.var 0) (.var 2)) (.glob "LETTERS"))) (.cons (.set 2 (.bin .add (.var 2) (.k (.int 1)))) .nil))
/-- read_name -/
def b_read_name : Ss := (.cons (.set 2 (.var 1)) (.cons whl_read_name_0 (.cons (.ret (.ifx (.call "is_name" (.cons (.slc (.var 0) (.var 1) (.var 2)) .nil)) (.tup (.cons (.slc (.var 0) (.var 1) (.var 2)) (.cons (.var 2) .nil))) (.tup (.cons (.k .non) (.cons (.var 1) .nil))))) .nil)))
def f_read_name : Fn := ⟨2, 3, [0, 1], b_read_name⟩
/-- read_tree -/
def b_read_tree : Ss := (.cons (.set 3 (.slc (.var 0) (.var 1) (.bin .add (.var 1) (.k (.int 1))))) (.cons (.ife (.cmp .notin (.var 3) (.glob "OPENED")) (.cons (.ret (.call "read_name" (.cons (.var 0) (.cons (.var 1) .nil)))) .nil) .nil) (.cons (.ife (.cmp .eq (.var 2) (.glob "MOST_ENDS")) (.cons (.ret (.tup (.cons (.k .non) (.cons (.var 1) .nil)))) .nil) .nil) (.cons (.set 4 (.ix (.glob "OPENED") (.var 3))) (.cons (.unp (.two 5 6) (.call "read_tree" (.cons (.var 0) (.cons (.bin .add (.var 1) (.k (.int 1))) (.cons (.bin .add (.var 2) (.k (.int 1))) .nil))))) (.cons (.ife (.or (.cmp .isN (.var 5) (.k .non)) (.cmp .ne (.slc (.var 0) (.var 6) (.bin .add (.var 6) (.k (.int 1)))) (.glob "BLANK"))) (.cons (.ret (.tup (.cons (.k .non) (.cons (.var 1) .nil)))) .nil) .nil) (.cons (.unp (.two 7 6) (.call "read_tree" (.cons (.var 0) (.cons (.bin .add (.var 6) (.k (.int 1))) (.cons (.bin .add (.var 2) (.k (.int 1))) .nil))))) (.cons (.ife (.or (.cmp .isN (.var 7) (.k .non)) (.cmp .ne (.slc (.var 0) (.var 6) (.bin .add (.var 6) (.k (.int 1)))) (.ix (.ix (.glob "BRACKETS") (.var 4)) (.k (.int 1))))) (.cons (.ret (.tup (.cons (.k .non) (.cons (.var 1) .nil)))) .nil) .nil) (.cons (.ret (.tup (.cons (.tup (.cons (.var 4) (.cons (.var 5) (.cons (.var 7) .nil)))) (.cons (.bin .add (.var 6) (.k (.int 1))) .nil)))) .nil)))))))))
def f_read_tree : Fn := ⟨3, 8, [0, 1, 2], b_read_tree⟩
/-- reading_in -/
def b_reading_in : Ss := (.cons (.unp (.two 1 2) (.call "read_tree" (.cons (.var 0) (.cons (.k (.int 0)) (.cons (.k (.int 0)) .nil))))) (.cons (.ret (.ifx (.and (.cmp .eq (.var 2) (.bi .len (.var 0))) (.call "is_reading" (.cons (.var 1) .nil))) (.var 1) (.k .non))) .nil))
def f_reading_in : Fn := ⟨1, 3, [0], b_reading_in⟩
/-- reading_of -/
def b_reading_of : Ss := (.cons (.set 1 (.ifx (.isi (.var 0) .str) (.call "reading_in" (.cons (.var 0) .nil)) (.k .non))) (.cons (.ife (.cmp .isN (.var 1) (.k .non)) (.cons (.raise "BadText" (.var 0)) .nil) .nil) (.cons (.ret (.var 1)) .nil)))
def f_reading_of : Fn := ⟨1, 2, [0], b_reading_of⟩
/-- _law_pot -/
def b__law_pot : Ss := (.cons (.set 2 (.ifx (.cmp .lt (.var 1) (.bi .len (.var 0))) (.ix (.var 0) (.var 1)) (.bin .add (.bin .mul (.k (.int 177)) (.var 1)) (.k (.int 61))))) (.cons (.set 3 (.bin .mul (.bin .mod (.bi .int (.bi .abs (.var 2))) (.bin .pow (.bin .pow (.k (.int 10)) (.k (.int 60))) (.k (.int 5)))) (.bi .int (.cmp .ge (.bi .abs (.var 2)) (.bin .pow (.k (.int 10)) (.k (.int 18))))))) (.cons (.set 4 (.bin .mod (.bi .int (.var 2)) (.k (.int 2305843009213693951)))) (.cons (.ret (.lst (.cons (.var 3) (.cons (.bin .mod (.bi .int (.bin .add (.bin .add (.bin .mul (.var 4) (.k (.int 73637))) (.bin .mul (.bin .mul (.k (.int 8129)) (.var 1)) (.var 1))) (.k (.int 153)))) (.k (.int 2305843009213693921))) (.cons (.k (.int 0)) .nil))))) .nil))))
def f__law_pot : Fn := ⟨2, 5, [0, 1], b__law_pot⟩
/-- _law_take -/
def b__law_take : Ss := (.cons (.ife (.cmp .gt (.ix (.var 0) (.k (.int 0))) (.k (.int 0))) (.cons (.set 2 (.bin .mod (.bi .int (.ix (.var 0) (.k (.int 0)))) (.var 1))) (.cons (.setix 0 (.k (.int 0)) (.bin .fdv (.ix (.var 0) (.k (.int 0))) (.var 1))) (.cons (.ret (.var 2)) .nil))) .nil) (.cons (.setix 0 (.k (.int 2)) (.bin .add (.ix (.var 0) (.k (.int 2))) (.k (.int 1)))) (.cons (.set 3 (.ix (.lst (.cons (.k (.int 2147483647)) (.cons (.k (.int 2147483629)) (.cons (.k (.int 2147483587)) (.cons (.k (.int 2147483579)) (.cons (.k (.int 2147483563)) .nil)))))) (.bin .mod (.bi .int (.ix (.var 0) (.k (.int 2)))) (.k (.int 5))))) (.cons (.set 4 (.bin .mod (.bi .int (.bin .pow (.bi .int (.bin .add (.bin .add (.ix (.var 0) (.k (.int 1))) (.bin .mul (.bin .mul (.k (.int 100895)) (.ix (.var 0) (.k (.int 2)))) (.ix (.var 0) (.k (.int 2))))) (.k (.int 69)))) (.k (.int 3)))) (.var 3))) (.cons (.set 4 (.bin .mod (.bi .int (.bin .mul (.var 4) (.bin .add (.bin .mod (.bi .int (.var 4)) (.k (.int 10331))) (.bin .mul (.k (.int 181)) (.ix (.var 0) (.k (.int 2))))))) (.k (.int 2305843009213693907)))) (.cons (.ret (.bin .mod (.bi .int (.bin .fdv (.var 4) (.k (.int 151)))) (.var 1))) .nil))))))
def f__law_take : Fn := ⟨2, 5, [0, 1], b__law_take⟩
/-- _law_of -/
def b__law_of : Ss := (.cons (.ret (.ix (.var 1) (.call "_law_take" (.cons (.var 0) (.cons (.bi .len (.var 1)) .nil))))) .nil)
def f__law_of : Fn := ⟨2, 2, [0, 1], b__law_of⟩
def for__law_some_0 : S := (.for (.one 5) (.range1 (.var 2)) (.cons (.expr (.mut .append 4 (.cons (.mut .popAt 3 (.cons (.call "_law_take" (.cons (.var 0) (.cons (.bi .len (.var 3)) .nil))) .nil)) .nil))) .nil))
/-- _law_some -/
def b__law_some : Ss := (.cons (.par 3 4 (.bi .list (.var 1)) (.lst .nil)) (.cons for__law_some_0 (.cons (.ret (.var 4)) .nil)))
def f__law_some : Fn := ⟨3, 6, [0, 1, 2], b__law_some⟩
/-- _law_cells -/
def b__law_cells : Ss := (.cons (.ret (.listRange (.mm true (.k (.int 1)) (.mm false (.var 1) (.bi .len (.var 0)))))) .nil)
def f__law_cells : Fn := ⟨2, 2, [0, 1], b__law_cells⟩
/-- _law_odd -/
def b__law_odd : Ss := (.cons (.set 1 (.lst (.cons (.k .non) (.cons (.k (.bl true)) (.cons (.k (.bl false)) (.cons (.k (.int 0)) (.cons (.k (.int 1)) (.cons (.neg (.k (.int 1))) (.cons (.k (.int 7)) (.cons (.k (.str "")) (.cons (.k (.str "s")) (.cons (.k (.str "a")) (.cons (.k (.str "is")) (.cons (.k (.str "always")) (.cons (.tup .nil) (.cons (.lst .nil) (.cons (.dct [] .nil) (.cons (.tup (.cons (.k (.int 0)) .nil)) (.cons (.tup (.cons (.tup .nil) .nil)) (.cons (.lst (.cons (.k (.int 0)) .nil)) (.cons (.k (.str "A")) (.cons (.tup (.cons (.k (.int 0)) (.cons (.k (.int 0)) .nil))) .nil)))))))))))))))))))))) (.cons (.set 1 (.bin .add (.var 1) (.lst (.cons (.tup (.cons (.k (.str "is")) .nil)) (.cons (.tup (.cons (.k (.str "a")) (.cons (.k (.str "b")) .nil))) (.cons (.tup (.cons (.k (.str "right")) (.cons (.k (.str "a")) .nil))) (.cons (.tup (.cons (.tup .nil) (.cons (.tup .nil) .nil))) (.cons (.tup (.cons (.k .non) .nil)) (.cons (.tup (.cons (.k (.bl true)) .nil)) (.cons (.bin .pow (.k (.int 10)) (.k (.int 8))) (.cons (.tup (.cons (.k (.str "row")) (.cons (.tup .nil) .nil))) (.cons (.k (.str "(a b)")) .nil)))))))))))) (.cons (.ret (.call "_law_of" (.cons (.var 0) (.cons (.var 1) .nil)))) .nil)))
def f__law_odd : Fn := ⟨1, 2, [0], b__law_odd⟩
/-- _law_ends -/
def b__law_ends : Ss := (.cons (.ret (.ifx (.isi (.var 0) .str) (.lst (.cons (.var 0) .nil)) (.bin .add (.call "_law_ends" (.cons (.ix (.var 0) (.k (.int 1))) .nil)) (.call "_law_ends" (.cons (.ix (.var 0) (.k (.int 2))) .nil))))) .nil)
def f__law_ends : Fn := ⟨1, 1, [0], b__law_ends⟩
/-- _law_spelled -/
def b__law_spelled : Ss := (.cons (.ife (.isi (.var 0) .str) (.cons (.ret (.var 0)) .nil) .nil) (.cons (.set 1 (.ifx (.cmp .eq (.ix (.var 0) (.k (.int 0))) (.k (.str "right"))) (.k (.str "()")) (.k (.str "[]")))) (.cons (.ret (.bin .add (.bin .add (.bin .add (.bin .add (.ix (.var 1) (.k (.int 0))) (.call "_law_spelled" (.cons (.ix (.var 0) (.k (.int 1))) .nil))) (.k (.str " "))) (.call "_law_spelled" (.cons (.ix (.var 0) (.k (.int 2))) .nil))) (.ix (.var 1) (.k (.int 1))))) .nil)))
def f__law_spelled : Fn := ⟨1, 2, [0], b__law_spelled⟩
def lc__law_is_name_0 : E := (.lc (.cmp .isin (.var 2) (.var 1)) (.one 2) (.seq (.var 0)) .none [("_law_one", 2)])
/-- _law_is_name -/
def b__law_is_name : Ss := (.cons (.set 1 (.k (.str "abcdefghijklmnopqrstuvwxyz"))) (.cons (.ret (.and (.isi (.var 0) .str) (.and (.chain .lt .lt (.k (.int 0)) (.bi .len (.var 0)) (.k (.int 9))) (.bi .all lc__law_is_name_0)))) .nil))
def f__law_is_name : Fn := ⟨1, 3, [0], b__law_is_name⟩
/-- _law_words -/
def b__law_words : Ss := (.cons (.set 3 (.lst (.cons (.k (.str "ann")) (.cons (.k (.str "bob")) (.cons (.k (.str "sees")) (.cons (.k (.str "s")) (.cons (.k (.str "row")) (.cons (.k (.str "not")) (.cons (.k (.str "like")) (.cons (.k (.str "is")) (.cons (.k (.str "a")) (.cons (.k (.str "zzzzzzzz")) (.cons (.k (.str "b")) (.cons (.k (.str "words")) (.cons (.k (.str "right")) (.cons (.k (.str "tells")) .nil)))))))))))))))) (.cons (.ret (.bi .tuple (.call "_law_some" (.cons (.var 0) (.cons (.var 3) (.cons (.bin .add (.var 1) (.call "_law_take" (.cons (.var 0) (.cons (.bin .add (.bin .sub (.var 2) (.var 1)) (.k (.int 1))) .nil)))) .nil)))))) .nil))
def f__law_words : Fn := ⟨3, 4, [0, 1, 2], b__law_words⟩
/-- _law_tree -/
def b__law_tree : Ss := (.cons (.ife (.cmp .eq (.var 2) (.k (.int 1))) (.cons (.ret (.call "_law_of" (.cons (.var 0) (.cons (.var 1) .nil)))) .nil) .nil) (.cons (.set 3 (.bin .add (.k (.int 1)) (.call "_law_take" (.cons (.var 0) (.cons (.bin .sub (.var 2) (.k (.int 1))) .nil))))) (.cons (.set 4 (.ix (.lst (.cons (.k (.str "right")) (.cons (.k (.str "left")) .nil))) (.call "_law_take" (.cons (.var 0) (.cons (.k (.int 2)) .nil))))) (.cons (.ret (.tup (.cons (.var 4) (.cons (.call "_law_tree" (.cons (.var 0) (.cons (.var 1) (.cons (.var 3) .nil)))) (.cons (.call "_law_tree" (.cons (.var 0) (.cons (.var 1) (.cons (.bin .sub (.var 2) (.var 3)) .nil)))) .nil))))) .nil))))
def f__law_tree : Fn := ⟨3, 5, [0, 1, 2], b__law_tree⟩
def for__law_read_0 : S := (.for (.two 3 4) (.enum (.slc (.var 0) (.k (.int 1)) (.neg (.k (.int 1))))) (.cons (.set 1 (.bin .sub (.bin .add (.var 1) (.bi .int (.cmp .isin (.var 4) (.k (.str "(["))))) (.bi .int (.cmp .isin (.var 4) (.k (.str ")]")))))) (.cons (.ife (.and (.cmp .eq (.var 4) (.k (.str " "))) (.cmp .eq (.var 1) (.k (.int 0)))) (.cons (.expr (.mut .append 2 (.cons (.bin .add (.var 3) (.k (.int 1))) .nil))) .nil) .nil) .nil)))
/-- _law_read -/
def b__law_read : Ss := (.cons (.ife (.call "_law_is_name" (.cons (.var 0) .nil)) (.cons (.ret (.var 0)) .nil) .nil) (.cons (.ife (.cmp .notin (.bin .add (.slc (.var 0) .none (.k (.int 1))) (.slc (.var 0) (.neg (.k (.int 1))) .none)) (.tup (.cons (.k (.str "()")) (.cons (.k (.str "[]")) .nil)))) (.cons (.ret (.k .non)) .nil) .nil) (.cons (.par 1 2 (.k (.int 0)) (.lst .nil)) (.cons for__law_read_0 (.cons (.ife (.or (.cmp .ne (.bi .len (.var 2)) (.k (.int 1))) (.cmp .ne (.var 1) (.k (.int 0)))) (.cons (.ret (.k .non)) .nil) .nil) (.cons (.par 5 6 (.call "_law_read" (.cons (.slc (.var 0) (.k (.int 1)) (.ix (.var 2) (.k (.int 0)))) .nil)) (.call "_law_read" (.cons (.slc (.var 0) (.bin .add (.ix (.var 2) (.k (.int 0))) (.k (.int 1))) (.neg (.k (.int 1)))) .nil))) (.cons (.ife (.or (.cmp .isN (.var 5) (.k .non)) (.cmp .isN (.var 6) (.k .non))) (.cons (.ret (.k .non)) .nil) .nil) (.cons (.ret (.tup (.cons (.ifx (.cmp .eq (.ix (.var 0) (.k (.int 0))) (.k (.str "("))) (.k (.str "right")) (.k (.str "left"))) (.cons (.var 5) (.cons (.var 6) .nil))))) .nil))))))))
def f__law_read : Fn := ⟨1, 7, [0], b__law_read⟩
/-- _law_spoilt -/
def b__law_spoilt : Ss := (.cons (.par 2 3 (.call "_law_take" (.cons (.var 0) (.cons (.bin .add (.bi .len (.var 1)) (.k (.int 1))) .nil))) (.call "_law_of" (.cons (.var 0) (.cons (.k (.str "()[] aAz1/s")) .nil)))) (.cons (.set 4 (.call "_law_take" (.cons (.var 0) (.cons (.k (.int 5)) .nil)))) (.cons (.ife (.cmp .eq (.var 4) (.k (.int 0))) (.cons (.ret (.bin .add (.bin .add (.slc (.var 1) .none (.var 2)) (.var 3)) (.slc (.var 1) (.var 2) .none))) .nil) .nil) (.cons (.ife (.cmp .eq (.var 4) (.k (.int 1))) (.cons (.ret (.bin .add (.slc (.var 1) .none (.var 2)) (.slc (.var 1) (.bin .add (.var 2) (.k (.int 1))) .none))) .nil) .nil) (.cons (.ife (.cmp .eq (.var 4) (.k (.int 2))) (.cons (.ret (.bin .add (.bin .add (.slc (.var 1) .none (.var 2)) (.var 3)) (.slc (.var 1) (.bin .add (.var 2) (.k (.int 1))) .none))) .nil) .nil) (.cons (.ret (.ifx (.cmp .eq (.var 4) (.k (.int 3))) (.bin .add (.bin .add (.slc (.var 1) .none (.var 2)) (.slc (.var 1) (.var 2) (.bin .add (.var 2) (.k (.int 1))))) (.slc (.var 1) (.var 2) .none)) (.bin .add (.bin .add (.slc (.var 1) .none (.var 2)) (.rev (.slc (.var 1) (.var 2) (.bin .add (.var 2) (.k (.int 2)))))) (.slc (.var 1) (.bin .add (.var 2) (.k (.int 2))) .none)))) .nil))))))
def f__law_spoilt : Fn := ⟨2, 5, [0, 1], b__law_spoilt⟩
/-- _law_is_judged -/
def b__law_is_judged : Ss := (.cons (.set 1 (.call "_law_read" (.cons (.var 0) .nil))) (.cons (.set 1 (.ifx (.or (.cmp .isN (.var 1) (.k .non)) (.cmp .gt (.bi .len (.call "_law_ends" (.cons (.var 1) .nil))) (.k (.int 6)))) (.k .non) (.var 1))) (.cons (.unp (.two 2 3) (.heard "_law_heard" (.call "reading_of" (.cons (.var 0) .nil)))) (.cons (.ife (.cmp .isN (.var 1) (.k .non)) (.cons (.ret (.and (.isx (.var 2) "BadText") (.cmp .eq (.fldv (.var 2)) (.var 0)))) .nil) .nil) (.cons (.ret (.and (.cmp .isN (.var 2) (.k .non)) (.cmp .eq (.bi .repr (.var 3)) (.bi .repr (.var 1))))) .nil)))))
def f__law_is_judged : Fn := ⟨1, 4, [0], b__law_is_judged⟩
def for__law_right_0 : S := (.for (.one 6) (.seq (.lst (.cons (.k .non) (.cons (.k (.int 0)) (.cons (.k (.bl true)) (.cons (.tup (.cons (.k (.str "a")) .nil)) (.cons (.lst (.cons (.k (.str "a")) .nil)) (.cons (.tup (.cons (.k (.str "right")) (.cons (.k (.str "a")) (.cons (.k (.str "b")) .nil)))) (.cons (.dct [] .nil) (.cons (.lst (.cons (.call "_law_odd" (.cons (.var 0) .nil)) .nil)) .nil)))))))))) (.cons (.set 7 (.ix (.heard "_law_heard" (.call "reading_of" (.cons (.var 6) .nil))) (.k (.int 0)))) (.cons (.ife (.or (.not (.isx (.var 7) "BadText")) (.cmp .ne (.bi .repr (.fldv (.var 7))) (.bi .repr (.var 6)))) (.cons (.ret (.k (.bl false))) .nil) .nil) .nil)))
def lc__law_right_1 : E := (.lc (.call "_law_is_judged" (.cons (.var 4) .nil)) (.one 4) (.seq (.var 2)) .none [("_law_text", 4)])
def lc__law_right_2 : E := (.lc (.call "_law_spoilt" (.cons (.var 0) (.cons (.var 4) .nil))) (.one 5) (.range1 (.k (.int 8))) .none [("_law_turn", 5)])
def for__law_right_3 : S := (.for (.one 3) (.range1 (.k (.int 4))) (.cons (.set 4 (.call "_law_spelled" (.cons (.call "_law_tree" (.cons (.var 0) (.cons (.var 1) (.cons (.bin .add (.k (.int 1)) (.call "_law_take" (.cons (.var 0) (.cons (.k (.int 7)) .nil)))) .nil)))) .nil))) (.cons (.expr (.mut .append 2 (.cons (.var 4) .nil))) (.cons (.expr (.mut .extend 2 (.cons lc__law_right_2 .nil))) .nil))))
/-- _law_right -/
def b__law_right : Ss := (.cons (.set 1 (.call "_law_words" (.cons (.var 0) (.cons (.k (.int 1)) (.cons (.k (.int 4)) .nil))))) (.cons (.set 2 (.lst (.cons (.k (.str "")) (.cons (.k (.str " ")) (.cons (.k (.str "(a b")) (.cons (.k (.str "a b")) (.cons (.k (.str "[a b)")) (.cons (.k (.str "(a  b)")) (.cons (.k (.str "(a b) ")) (.cons (.k (.str "(a)")) (.cons (.k (.str "[]")) (.cons (.k (.str "A")) (.cons (.k (.str "abcdefgh")) (.cons (.k (.str "abcdefghi")) .nil)))))))))))))) (.cons (.expr (.mut .extend 2 (.cons (.lst (.cons (.k (.str "(a b c)")) (.cons (.k (.str "((a b)c)")) .nil))) .nil))) (.cons for__law_right_3 (.cons (.ife (.not (.bi .all lc__law_right_1)) (.cons (.ret (.k (.bl false))) .nil) .nil) (.cons for__law_right_0 (.cons (.ret (.k (.bl true))) .nil)))))))
def f__law_right : Fn := ⟨1, 8, [0], b__law_right⟩
def lc_law_0 : E := (.lc (.call "_law_right" (.cons (.call "_law_pot" (.cons (.var 0) (.cons (.var 1) .nil))) .nil)) (.one 1) (.seq (.call "_law_cells" (.cons (.var 0) (.cons (.k (.int 6)) .nil)))) .none [("_law_place", 1)])
/-- law -/
def b_law : Ss := (.cons (.ret (.bi .all lc_law_0)) .nil)
def f_law : Fn := ⟨1, 2, [0], b_law⟩
def P : Prog := ⟨[("is_name", f_is_name), ("is_threefold", f_is_threefold), ("is_tree", f_is_tree), ("ends_of", f_ends_of), ("is_reading", f_is_reading), ("read_name", f_read_name), ("read_tree", f_read_tree), ("reading_in", f_reading_in), ("reading_of", f_reading_of), ("_law_pot", f__law_pot), ("_law_take", f__law_take), ("_law_of", f__law_of), ("_law_some", f__law_some), ("_law_cells", f__law_cells), ("_law_odd", f__law_odd), ("_law_ends", f__law_ends), ("_law_spelled", f__law_spelled), ("_law_is_name", f__law_is_name), ("_law_words", f__law_words), ("_law_tree", f__law_tree), ("_law_read", f__law_read), ("_law_spoilt", f__law_spoilt), ("_law_is_judged", f__law_is_judged), ("_law_right", f__law_right), ("law", f_law)], [("MOST_ENDS", (.int 6)), ("LONGEST_NAME", (.int 8)), ("LETTERS", (.str "abcdefghijklmnopqrstuvwxyz")), ("BLANK", (.str " ")), ("OPENED", (.dct ["(", "["] [(.str "right"), (.str "left")])), ("BRACKETS", (.dct ["right", "left"] [(.str "()"), (.str "[]")])), ("OTHER_SIDE", (.dct ["right", "left"] [(.str "left"), (.str "right")]))], ["TypeUnknown", "BadText"], ["_law_heard"]⟩
theorem lk_is_name : P.fns.lookup ("is_name" : Str) = some f_is_name := by rfl
theorem lk_is_threefold : P.fns.lookup ("is_threefold" : Str) = some f_is_threefold := by rfl
theorem lk_is_tree : P.fns.lookup ("is_tree" : Str) = some f_is_tree := by rfl
theorem lk_ends_of : P.fns.lookup ("ends_of" : Str) = some f_ends_of := by rfl
theorem lk_is_reading : P.fns.lookup ("is_reading" : Str) = some f_is_reading := by rfl
theorem lk_read_name : P.fns.lookup ("read_name" : Str) = some f_read_name := by rfl
theorem lk_read_tree : P.fns.lookup ("read_tree" : Str) = some f_read_tree := by rfl
theorem lk_reading_in : P.fns.lookup ("reading_in" : Str) = some f_reading_in := by rfl
theorem lk_reading_of : P.fns.lookup ("reading_of" : Str) = some f_reading_of := by rfl
theorem lk__law_pot : P.fns.lookup ("_law_pot" : Str) = some f__law_pot := by rfl
theorem lk__law_take : P.fns.lookup ("_law_take" : Str) = some f__law_take := by rfl
theorem lk__law_of : P.fns.lookup ("_law_of" : Str) = some f__law_of := by rfl
theorem lk__law_some : P.fns.lookup ("_law_some" : Str) = some f__law_some := by rfl
theorem lk__law_cells : P.fns.lookup ("_law_cells" : Str) = some f__law_cells := by rfl
theorem lk__law_odd : P.fns.lookup ("_law_odd" : Str) = some f__law_odd := by rfl
theorem lk__law_ends : P.fns.lookup ("_law_ends" : Str) = some f__law_ends := by rfl
theorem lk__law_spelled : P.fns.lookup ("_law_spelled" : Str) = some f__law_spelled := by rfl
theorem lk__law_is_name : P.fns.lookup ("_law_is_name" : Str) = some f__law_is_name := by rfl
theorem lk__law_words : P.fns.lookup ("_law_words" : Str) = some f__law_words := by rfl
theorem lk__law_tree : P.fns.lookup ("_law_tree" : Str) = some f__law_tree := by rfl
theorem lk__law_read : P.fns.lookup ("_law_read" : Str) = some f__law_read := by rfl
theorem lk__law_spoilt : P.fns.lookup ("_law_spoilt" : Str) = some f__law_spoilt := by rfl
theorem lk__law_is_judged : P.fns.lookup ("_law_is_judged" : Str) = some f__law_is_judged := by rfl
theorem lk__law_right : P.fns.lookup ("_law_right" : Str) = some f__law_right := by rfl
theorem lk_law : P.fns.lookup ("law" : Str) = some f_law := by rfl
theorem gl_MOST_ENDS : P.consts.lookup ("MOST_ENDS" : Str) = some (.int 6) := by rfl
theorem gl_LONGEST_NAME : P.consts.lookup ("LONGEST_NAME" : Str) = some (.int 8) := by rfl
theorem gl_LETTERS : P.consts.lookup ("LETTERS" : Str) = some (.str "abcdefghijklmnopqrstuvwxyz") := by rfl
theorem gl_BLANK : P.consts.lookup ("BLANK" : Str) = some (.str " ") := by rfl
theorem gl_OPENED : P.consts.lookup ("OPENED" : Str) = some (.dct ["(", "["] [(.str "right"), (.str "left")]) := by rfl
theorem gl_BRACKETS : P.consts.lookup ("BRACKETS" : Str) = some (.dct ["right", "left"] [(.str "()"), (.str "[]")]) := by rfl
theorem gl_OTHER_SIDE : P.consts.lookup ("OTHER_SIDE" : Str) = some (.dct ["right", "left"] [(.str "left"), (.str "right")]) := by rfl
theorem look : P.fns.lookup ("law" : Str) = some f_law := by rfl
end K02

set_option maxRecDepth 100000
set_option maxHeartbeats 4000000
namespace K02
open PyEv PySem
instance : Has P "is_name" Rd.f_is_name := ⟨lk_is_name⟩
instance : Has P "is_threefold" Rd.f_is_threefold := ⟨lk_is_threefold⟩
instance : Has P "is_tree" Rd.f_is_tree := ⟨lk_is_tree⟩
instance : Has P "ends_of" Rd.f_ends_of := ⟨lk_ends_of⟩
instance : Has P "is_reading" Rd.f_is_reading := ⟨lk_is_reading⟩
instance : Has P "read_name" Rd.f_read_name := ⟨lk_read_name⟩
instance : Has P "read_tree" Rd.f_read_tree := ⟨lk_read_tree⟩
instance : Has P "reading_in" Rd.f_reading_in := ⟨lk_reading_in⟩
instance : Has P "reading_of" Rd.f_reading_of := ⟨lk_reading_of⟩
instance : Tak P := ⟨100895, 69, lk__law_take, by decide, by decide, by decide, by decide⟩
instance : Has P "_law_of" Lw.f__law_of := ⟨lk__law_of⟩
instance : Has P "_law_some" Lw.f__law_some := ⟨lk__law_some⟩
instance : Has P "_law_odd" Lw.f__law_odd := ⟨lk__law_odd⟩
instance : Has P "_law_ends" Lw.f__law_ends := ⟨lk__law_ends⟩
instance : Has P "_law_spelled" Lw.f__law_spelled := ⟨lk__law_spelled⟩
instance : Has P "_law_is_name" Lw.f__law_is_name := ⟨lk__law_is_name⟩
instance : Has P "_law_words" Lw.f__law_words := ⟨lk__law_words⟩
instance : Has P "_law_tree" Lw.f__law_tree := ⟨lk__law_tree⟩
instance : Has P "_law_read" f__law_read := ⟨lk__law_read⟩
instance : Has P "_law_spoilt" f__law_spoilt := ⟨lk__law_spoilt⟩
instance : Has P "_law_is_judged" f__law_is_judged := ⟨lk__law_is_judged⟩
instance : Has P "_law_right" f__law_right := ⟨lk__law_right⟩
instance : Con P "MOST_ENDS" (.int 6) := ⟨gl_MOST_ENDS⟩
instance : Con P "LONGEST_NAME" (.int 8) := ⟨gl_LONGEST_NAME⟩
instance : Con P "LETTERS" (.str "abcdefghijklmnopqrstuvwxyz") := ⟨gl_LETTERS⟩
instance : Con P "BLANK" (.str " ") := ⟨gl_BLANK⟩
instance : Con P "OPENED" (.dct ["(", "["] [.str "right", .str "left"]) := ⟨gl_OPENED⟩
instance : Con P "BRACKETS" (.dct ["right", "left"] [.str "()", .str "[]"]) := ⟨gl_BRACKETS⟩
instance : Con P "OTHER_SIDE" (.dct ["right", "left"] [.str "left", .str "right"]) := ⟨gl_OTHER_SIDE⟩
instance : Exn P "BadText" := ⟨rfl⟩
instance : Exn P "TypeUnknown" := ⟨rfl⟩
instance : Hrs P "_law_heard" := ⟨rfl⟩
/-! ### the law's reader -/
def opI (c : Nat) : Int := if opB c = true then 1 else 0
def clB (c : Nat) : Bool := decide (c = 41) || decide (c = 93)
def clI (c : Nat) : Int := if clB c = true then 1 else 0
theorem in_two {a b : Nat} (ha : a < 128) (hb : b < 128) (h : (List.range 128).all (fun c => (!(PySem.Builtin.Str.occurrences (tx [a, b]) ⟨#[c]⟩ 0 (tx [a, b]).length 1).isEmpty) == (decide (c = a) || decide (c = b))) = true) (c : Nat) : isinF (.str ⟨#[c]⟩) (.str (tx [a, b])) = some (decide (c = a) || decide (c = b)) := by
  show some _ = _
  congr 1
  by_cases hc : c < 128
  · exact beq_iff_eq.mp (List.all_eq_true.mp h c (List.mem_range.mpr hc))
  · rw [in_high (z := tx [a, b]) (by intro d hd; simp [tx] at hd; omega) (by omega)]
    symm
    simp; omega
theorem in_op (c : Nat) : isinF (.str ⟨#[c]⟩) (.str "([") = some (opB c) := in_two (a := 40) (b := 91) (by decide) (by decide) (by decide +kernel) c
theorem in_cl (c : Nat) : isinF (.str ⟨#[c]⟩) (.str ")]") = some (decide (c = 41) || decide (c = 93)) := in_two (a := 41) (b := 93) (by decide) (by decide) (by decide +kernel) c
/-- the depth behind signs, and where the blanks of depth none stand -/
def scan : Nat → Int → List Nat → Int × List Nat
  | _, d, [] => (d, [])
  | i, d, c :: r => ((scan (i + 1) (d + opI c - clI c) r).1, if c = 32 ∧ d + opI c - clI c = 0 then i :: (scan (i + 1) (d + opI c - clI c) r).2 else (scan (i + 1) (d + opI c - clI c) r).2)
abbrev scanS : Ss := (.cons (.set 1 (.bin .sub (.bin .add (.var 1) (.bi .int (.cmp .isin (.var 4) (.k (.str "(["))))) (.bi .int (.cmp .isin (.var 4) (.k (.str ")]")))))) (.cons (.ife (.and (.cmp .eq (.var 4) (.k (.str " "))) (.cmp .eq (.var 1) (.k (.int 0)))) (.cons (.expr (.mut .append 2 (.cons (.bin .add (.var 3) (.k (.int 1))) .nil))) .nil) .nil) .nil))
theorem for_read : for__law_read_0 = .for (.two 3 4) (.enum (.slc (.var 0) (.k (.int 1)) (.neg (.k (.int 1))))) scanS := rfl
theorem scan_turn {cf : Str → List PyEv.W → CRes} {t : PyEv.W} {d : Int} {cuts : List D} {i c : Nat} (hl : cuts.length ≤ 100000) :
    evSs P cf [0] scanS [some t, some (.d (.int d)), some (.lst cuts), some (.d (.int (i : Int))), some (.d (.str ⟨#[c]⟩)), none, none] =
      .nx [some t, some (.d (.int (d + opI c - clI c))), some (.lst (if c = 32 ∧ d + opI c - clI c = 0 then cuts ++ [.int ((i : Int) + 1)] else cuts)), some (.d (.int (i : Int))), some (.d (.str ⟨#[c]⟩)), none, none] := by
  have h1 := in_op c
  have h2 : isinF (.str ⟨#[c]⟩) (.str ")]") = some (clB c) := in_cl c
  have e1 : (if opB c = true then (1 : Int) else 0) = opI c := rfl
  have e2 : (if clB c = true then (1 : Int) else 0) = clI c := rfl
  have b1 : biF .int (.bl (opB c)) = some (.d (.int (opI c))) := by rw [b_ib, e1]
  have b2 : biF .int (.bl (clB c)) = some (.d (.int (clI c))) := by rw [b_ib, e2]
  have h3 : ((⟨#[c]⟩ : Str) = " ") = (c = 32) := by
    have : ((⟨#[c]⟩ : Str) = " ") = (tx [c] = tx [32]) := rfl
    rw [this, tx1]
  have hl2 : cuts.length < line := by unfold line; omega
  generalize opI c = o at *
  generalize clI c = k at *
  clear e1 e2 hl
  by_cases hc : c = 32
  · have h4 : ((⟨#[c]⟩ : Str) = " ") = True := eq_true (by rw [h3]; exact hc)
    generalize (⟨#[c]⟩ : Str) = z at *
    by_cases hd : d + o - k = 0
    · rw [if_pos ⟨hc, hd⟩]
      clear h3 hc
      unfold scanS
      simp only [evSs, evS, evE, evIts, evAs, evIt, evJs, Res.bind, Res.fl, Res.of, Fl.then, use, useB, item, take, slot_z, slot_s, nxO, stor, assignTg, W.frz, callA, bindA, bkn, bkc, useAll, C.d, E.isNone, partB, Option.bind, Option.map, Has.lk, Con.gl, Exn.ex, List.length_cons, List.length_nil, List.set_cons_zero, List.set_cons_succ, List.contains_cons, List.contains_nil, beq_iff_eq, Nat.reduceAdd, Nat.reduceLeDiff, Nat.reduceEqDiff, Nat.reduceBEq, Nat.reduceBNe, Int.reduceNeg, if_true, if_false, or_self, or_false, false_or, or_true, true_or, and_self, and_true, true_and, Bool.or_false, Bool.or_true, Bool.false_or, Bool.true_or, Bool.and_true, Bool.true_and, Bool.and_false, Bool.false_and, Bool.false_eq_true, Bool.not_true, Bool.not_false, decide_eq_true_eq, decide_true, decide_false, not_true_eq_false, not_false_eq_true, reduceIte, reduceCtorEq, Bool.not_eq_true', decide_eq_false_iff_not, List.cons_append, List.nil_append, List.append_nil, Nat.zero_le, Int.reduceEq, Int.reduceLT, Int.reduceLE, eq_self, cast0, cast1, cast2, cast3, cast4, cast5, cast6, cast7, cast8, cast9, en_l, en_t, en_s, if_t, if_l, lit_line, l_str, m_app, m_ext, o_adds, o_addl, o_addt, rv_s, binAdd, binSub, c_lt, c_le, c_gt, c_ge, isN_eq, notN_eq, nin_eq, in_eq, eq_eq2, ne_eq2, eqF_s, eqF_i, xdd, xtt, xll, at0, at1, at2, nn_non, nn_t, nn_l, nn_s, nn_i, nn_b, nn_c, nn_x, l_tup, l_lst, b_tt, b_tl, b_lt, b_ll, b_ii, b_repr2, b_all2, b_any2, rv_t, ty_1, ty_2, ty_3, ty_4, ty_5, ty_6, ty_7, ty_8, ty_9, ty_10, ty_11, ty_12, ty_13, ty_14, ty_15, ty_16, ty_17, ty_18, ty_19, ty_20, ty_21, ty_22, ty_23, ty_24, ty_25, ty_26, ty_27, ty_28, *]
    · rw [if_neg (fun h => hd h.2)]
      clear h3 hc
      unfold scanS
      simp only [evSs, evS, evE, evIts, evAs, evIt, evJs, Res.bind, Res.fl, Res.of, Fl.then, use, useB, item, take, slot_z, slot_s, nxO, stor, assignTg, W.frz, callA, bindA, bkn, bkc, useAll, C.d, E.isNone, partB, Option.bind, Option.map, Has.lk, Con.gl, Exn.ex, List.length_cons, List.length_nil, List.set_cons_zero, List.set_cons_succ, List.contains_cons, List.contains_nil, beq_iff_eq, Nat.reduceAdd, Nat.reduceLeDiff, Nat.reduceEqDiff, Nat.reduceBEq, Nat.reduceBNe, Int.reduceNeg, if_true, if_false, or_self, or_false, false_or, or_true, true_or, and_self, and_true, true_and, Bool.or_false, Bool.or_true, Bool.false_or, Bool.true_or, Bool.and_true, Bool.true_and, Bool.and_false, Bool.false_and, Bool.false_eq_true, Bool.not_true, Bool.not_false, decide_eq_true_eq, decide_true, decide_false, not_true_eq_false, not_false_eq_true, reduceIte, reduceCtorEq, Bool.not_eq_true', decide_eq_false_iff_not, List.cons_append, List.nil_append, List.append_nil, Nat.zero_le, Int.reduceEq, Int.reduceLT, Int.reduceLE, eq_self, cast0, cast1, cast2, cast3, cast4, cast5, cast6, cast7, cast8, cast9, en_l, en_t, en_s, if_t, if_l, lit_line, l_str, m_app, m_ext, o_adds, o_addl, o_addt, rv_s, binAdd, binSub, c_lt, c_le, c_gt, c_ge, isN_eq, notN_eq, nin_eq, in_eq, eq_eq2, ne_eq2, eqF_s, eqF_i, xdd, xtt, xll, at0, at1, at2, nn_non, nn_t, nn_l, nn_s, nn_i, nn_b, nn_c, nn_x, l_tup, l_lst, b_tt, b_tl, b_lt, b_ll, b_ii, b_repr2, b_all2, b_any2, rv_t, ty_1, ty_2, ty_3, ty_4, ty_5, ty_6, ty_7, ty_8, ty_9, ty_10, ty_11, ty_12, ty_13, ty_14, ty_15, ty_16, ty_17, ty_18, ty_19, ty_20, ty_21, ty_22, ty_23, ty_24, ty_25, ty_26, ty_27, ty_28, *]
  · have h4 : ¬ (⟨#[c]⟩ : Str) = " " := by rw [h3]; exact hc
    generalize (⟨#[c]⟩ : Str) = z at *
    rw [if_neg (fun h => hc h.1)]
    clear h3 hc
    unfold scanS
    simp only [evSs, evS, evE, evIts, evAs, evIt, evJs, Res.bind, Res.fl, Res.of, Fl.then, use, useB, item, take, slot_z, slot_s, nxO, stor, assignTg, W.frz, callA, bindA, bkn, bkc, useAll, C.d, E.isNone, partB, Option.bind, Option.map, Has.lk, Con.gl, Exn.ex, List.length_cons, List.length_nil, List.set_cons_zero, List.set_cons_succ, List.contains_cons, List.contains_nil, beq_iff_eq, Nat.reduceAdd, Nat.reduceLeDiff, Nat.reduceEqDiff, Nat.reduceBEq, Nat.reduceBNe, Int.reduceNeg, if_true, if_false, or_self, or_false, false_or, or_true, true_or, and_self, and_true, true_and, Bool.or_false, Bool.or_true, Bool.false_or, Bool.true_or, Bool.and_true, Bool.true_and, Bool.and_false, Bool.false_and, Bool.false_eq_true, Bool.not_true, Bool.not_false, decide_eq_true_eq, decide_true, decide_false, not_true_eq_false, not_false_eq_true, reduceIte, reduceCtorEq, Bool.not_eq_true', decide_eq_false_iff_not, List.cons_append, List.nil_append, List.append_nil, Nat.zero_le, Int.reduceEq, Int.reduceLT, Int.reduceLE, eq_self, cast0, cast1, cast2, cast3, cast4, cast5, cast6, cast7, cast8, cast9, en_l, en_t, en_s, if_t, if_l, lit_line, l_str, m_app, m_ext, o_adds, o_addl, o_addt, rv_s, binAdd, binSub, c_lt, c_le, c_gt, c_ge, isN_eq, notN_eq, nin_eq, in_eq, eq_eq2, ne_eq2, eqF_s, eqF_i, xdd, xtt, xll, at0, at1, at2, nn_non, nn_t, nn_l, nn_s, nn_i, nn_b, nn_c, nn_x, l_tup, l_lst, b_tt, b_tl, b_lt, b_ll, b_ii, b_repr2, b_all2, b_any2, rv_t, ty_1, ty_2, ty_3, ty_4, ty_5, ty_6, ty_7, ty_8, ty_9, ty_10, ty_11, ty_12, ty_13, ty_14, ty_15, ty_16, ty_17, ty_18, ty_19, ty_20, ty_21, ty_22, ty_23, ty_24, ty_25, ty_26, ty_27, ty_28, *]
theorem scan_loop {cf : Str → List PyEv.W → CRes} {t : PyEv.W} : ∀ (m : List Nat) (i : Nat) (d : Int) (cuts : List D) (o3 o4 : Option PyEv.W), cuts.length + m.length ≤ 100000 →
    ∃ p3 p4, forL [0] (.two 3 4) (fun env => evSs P cf [0] scanS env) (((m.map fun c => D.str ⟨#[c]⟩).zipIdx i).map fun p => .tup [.int (p.2 : Nat), p.1]) [some t, some (.d (.int d)), some (.lst cuts), o3, o4, none, none] =
      .nx [some t, some (.d (.int (scan i d m).1)), some (.lst (cuts ++ (scan i d m).2.map fun (k : Nat) => D.int ((k : Int) + 1))), p3, p4, none, none]
  | [], i, d, cuts, o3, o4, _ => ⟨o3, o4, by simp [forL, scan]⟩
  | c :: m, i, d, cuts, o3, o4, hl => by
    simp only [List.length_cons] at hl
    have ht := scan_turn (cf := cf) (t := t) (d := d) (cuts := cuts) (i := i) (c := c) (by omega)
    have hs : assignTg [0] (.two 3 4) (.tup [.int (i : Nat), .str ⟨#[c]⟩]) [some t, some (.d (.int d)), some (.lst cuts), o3, o4, none, none] = some [some t, some (.d (.int d)), some (.lst cuts), some (.d (.int (i : Int))), some (.d (.str ⟨#[c]⟩)), none, none] := rfl
    simp only [List.map_cons, List.zipIdx_cons, forL, hs, ht, scan]
    obtain ⟨p3, p4, ih⟩ := scan_loop (cf := cf) (t := t) m (i + 1) (d + opI c - clI c) (if c = 32 ∧ d + opI c - clI c = 0 then cuts ++ [.int ((i : Int) + 1)] else cuts) (some (.d (.int (i : Int)))) (some (.d (.str ⟨#[c]⟩))) (by split <;> (try simp only [List.length_append, List.length_cons, List.length_nil]) <;> omega)
    refine ⟨p3, p4, ?_⟩
    rw [ih]
    split <;> simp
/-- what stands in brackets -/
def brk : List Nat → Option (Bool × List Nat)
  | [] => none
  | c :: r => if opB c = true ∧ r.getLast? = some (cl (decide (c = 40))) then some (decide (c = 40), r.dropLast) else none
def lwRead : Nat → List Nat → Option Tr
  | 0, l => if nmB l = true then some (.leaf (tx l)) else none
  | k + 1, l => if nmB l = true then some (.leaf (tx l)) else match brk l with
    | none => none
    | some (q, m) => match scan 0 0 m with
      | (e, [a]) => if e = 0 then (match lwRead k (m.take a), lwRead k (m.drop (a + 1)) with
        | some x, some y => some (.node q x y)
        | _, _ => none) else none
      | _ => none
theorem brk_cons {c : Nat} {r : List Nat} : brk (c :: r) = if opB c = true ∧ r.getLast? = some (cl (decide (c = 40))) then some (decide (c = 40), r.dropLast) else none := rfl
theorem brk_some {l m : List Nat} {q : Bool} (h : brk l = some (q, m)) : l = op q :: (m ++ [cl q]) := by
  cases l with
  | nil => cases h
  | cons c r =>
    rw [brk_cons] at h
    split at h
    · rename_i hc
      obtain ⟨p, rfl⟩ := op_of hc.1
      rw [op40] at hc h
      cases h
      obtain ⟨r', rfl⟩ := List.getLast?_eq_some_iff.mp hc.2
      simp
    · cases h
theorem brk_app {q : Bool} {m : List Nat} : brk (op q :: (m ++ [cl q])) = some (q, m) := by
  rw [brk_cons, op40, if_pos ⟨opB_op, by simp⟩]
  simp
theorem scan_at : ∀ (m : List Nat) (i : Nat) (d : Int) (a : Nat), a ∈ (scan i d m).2 → i ≤ a ∧ m[a - i]? = some 32
  | [], i, d, a, h => by simp [scan] at h
  | c :: m, i, d, a, h => by
    have more : a ∈ (scan (i + 1) (d + opI c - clI c) m).2 → i ≤ a ∧ (c :: m)[a - i]? = some 32 := fun h => by
      obtain ⟨h1, h2⟩ := scan_at m (i + 1) _ a h
      have e : a - i = (a - (i + 1)) + 1 := by omega
      exact ⟨by omega, by rw [e, List.getElem?_cons_succ]; exact h2⟩
    simp only [scan] at h
    split at h
    · rename_i hc
      rcases List.mem_cons.mp h with rfl | h
      · exact ⟨Nat.le_refl _, by simp [hc.1]⟩
      · exact more h
    · exact more h
theorem lwRead_some : ∀ (k : Nat) {l : List Nat} {t : Tr}, lwRead k l = some t → l = t.sp ∧ t.named
  | 0, l, t, h => by
    unfold lwRead at h
    split at h
    · rename_i hn
      cases h
      exact ⟨rfl, fun s hs => by rcases List.mem_singleton.mp hs with rfl; exact hn⟩
    · cases h
  | k + 1, l, t, h => by
    unfold lwRead at h
    split at h
    · rename_i hn
      cases h
      exact ⟨rfl, fun s hs => by rcases List.mem_singleton.mp hs with rfl; exact hn⟩
    · split at h
      · cases h
      · rename_i q m hb
        have el := brk_some hb
        split at h
        · rename_i e a hs
          split at h
          · split at h
            · rename_i x y hx hy
              cases h
              obtain ⟨e1, n1⟩ := lwRead_some k hx
              obtain ⟨e2, n2⟩ := lwRead_some k hy
              have ha := (scan_at m 0 0 a (by rw [hs]; exact List.mem_singleton.mpr rfl)).2
              simp only [Nat.sub_zero] at ha
              obtain ⟨hlt, hg⟩ := List.getElem?_eq_some_iff.mp ha
              have em : m = m.take a ++ 32 :: m.drop (a + 1) := by
                rw [← hg]; simp
              refine ⟨?_, named_node.mpr ⟨n1, n2⟩⟩
              rw [el, em, e1, e2]
              simp [Tr.sp]
            · cases h
          · cases h
        · cases h
theorem name_scan : ∀ (w r : List Nat) (i : Nat) (d : Int), (∀ c ∈ w, letB c = true) → scan i d (w ++ r) = scan (i + w.length) d r
  | [], r, i, d, _ => rfl
  | c :: w, r, i, d, h => by
    have hc := letB_iff.mp (h c List.mem_cons_self)
    have e1 : opI c = 0 := by unfold opI; rw [opB_let (h c List.mem_cons_self)]; rfl
    have e2 : clI c = 0 := by unfold clI clB; rw [if_neg]; simp; omega
    have ih := name_scan w r (i + 1) d fun x hx => h x (List.mem_cons_of_mem _ hx)
    simp only [List.cons_append, scan, e1, e2, Int.add_zero, Int.sub_zero, ih]
    rw [if_neg (by omega), List.length_cons, show i + 1 + w.length = i + (w.length + 1) by omega]
theorem tree_scan : ∀ (t : Tr) (r : List Nat) (i : Nat) (d : Int), t.named → 0 ≤ d → scan i d (t.sp ++ r) = scan (i + t.sp.length) d r
  | .leaf s, r, i, d, h, _ => name_scan _ r i d (name_len (named_leaf h)).2.2
  | .node q a b, r, i, d, h, hd => by
    obtain ⟨n1, n2⟩ := named_node.mp h
    have e : (Tr.node q a b).sp ++ r = op q :: (a.sp ++ (32 :: (b.sp ++ (cl q :: r)))) := by simp [Tr.sp]
    have o1 : opI (op q) = 1 := by cases q <;> rfl
    have o2 : clI (op q) = 0 := by cases q <;> rfl
    have o3 : opI (cl q) = 0 := by cases q <;> rfl
    have o4 : clI (cl q) = 1 := by cases q <;> rfl
    have o5 : opI 32 = 0 := rfl
    have o6 : clI 32 = 0 := rfl
    have o7 : ¬ op q = 32 := by cases q <;> decide
    have o8 : ¬ cl q = 32 := by cases q <;> decide
    rw [e]
    have h1 := tree_scan a (32 :: (b.sp ++ (cl q :: r))) (i + 1) (d + 1) n1 (by omega)
    have h2 := tree_scan b (cl q :: r) (i + 1 + a.sp.length + 1) (d + 1) n2 (by omega)
    simp only [scan, o1, o2, Int.sub_zero, h1]
    simp only [scan, o5, o6, Int.add_zero, Int.sub_zero, h2]
    simp only [scan, o3, o4, Int.add_zero]
    rw [if_neg (fun h => o7 h.1), if_neg (fun h => by omega), if_neg (fun h => o8 h.1), show d + 1 - 1 = d by omega,
      show i + 1 + a.sp.length + 1 + b.sp.length + 1 = i + (Tr.node q a b).sp.length by simp [Tr.sp]; omega]
theorem node_name {q : Bool} {a b : Tr} : nmB (Tr.node q a b).sp = false := by
  have : (Tr.node q a b).sp.all letB = false := by simp [Tr.sp, op_let]
  unfold nmB
  rw [this]
  simp
theorem lwRead_sp : ∀ (k : Nat) {t : Tr}, t.named → t.sp.length ≤ 3 * k + 2 → lwRead k t.sp = some t
  | 0, .leaf s, h, _ => by unfold lwRead; exact if_pos (named_leaf h)
  | k + 1, .leaf s, h, _ => by unfold lwRead; exact if_pos (named_leaf h)
  | 0, .node q a b, h, hl => by simp [Tr.sp] at hl; omega
  | k + 1, .node q a b, h, hl => by
    obtain ⟨n1, n2⟩ := named_node.mp h
    have e : (Tr.node q a b).sp = op q :: ((a.sp ++ 32 :: b.sp) ++ [cl q]) := by simp [Tr.sp]
    have ls : (Tr.node q a b).sp.length = a.sp.length + b.sp.length + 3 := by simp [Tr.sp]; omega
    unfold lwRead
    rw [if_neg (by rw [node_name]; decide), e, brk_app]
    have hs : scan 0 0 (a.sp ++ 32 :: b.sp) = (0, [a.sp.length]) := by
      rw [tree_scan a (32 :: b.sp) 0 0 n1 (by decide), Nat.zero_add]
      have h2 := tree_scan b [] (a.sp.length + 1) 0 n2 (by decide)
      rw [List.append_nil] at h2
      have o5 : opI 32 = 0 := rfl
      have o6 : clI 32 = 0 := rfl
      simp only [scan, o5, o6, Int.add_zero, Int.sub_zero, h2]
      simp
    simp only [hs, if_true]
    have t1 : (a.sp ++ 32 :: b.sp).take a.sp.length = a.sp := by simp
    have t2 : (a.sp ++ 32 :: b.sp).drop (a.sp.length + 1) = b.sp := by simp
    rw [t1, t2, lwRead_sp k n1 (by omega), lwRead_sp k n2 (by omega)]
/-- both readers tell the same -/
theorem read_same {k : Nat} {l : List Nat} (hk : l.length ≤ 3 * k + 2) : rdIn l = (match lwRead k l with | some t => if t.ends.length ≤ 6 then some t else none | none => none) := by
  cases hr : lwRead k l with
  | some t =>
    obtain ⟨e, nm⟩ := lwRead_some k hr
    simp only
    by_cases h6 : t.ends.length ≤ 6
    · rw [if_pos h6]
      have := depth_lt t
      have h := rdTree_app 6 (r := []) nm (by omega) (fun c r' e => by cases e)
      rw [List.append_nil, ← e] at h
      unfold rdIn
      rw [h]
      simp [h6]
    · rw [if_neg h6]
      cases hu : rdIn l with
      | none => rfl
      | some u =>
        unfold rdIn at hu
        split at hu
        · rename_i v hv
          split at hu
          · rename_i hv6
            cases hu
            obtain ⟨e2, n2, _⟩ := rdTree_some 6 hv
            rw [List.append_nil] at e2
            have := lwRead_sp k n2 (by rw [← e2]; exact hk)
            rw [← e2, hr] at this
            cases this
            exact absurd hv6 h6
          · cases hu
        · cases hu
  | none =>
    simp only
    cases hu : rdIn l with
    | none => rfl
    | some u =>
      unfold rdIn at hu
      split at hu
      · rename_i v hv
        split at hu
        · cases hu
          obtain ⟨e2, n2, _⟩ := rdTree_some 6 hv
          rw [List.append_nil] at e2
          have := lwRead_sp k n2 (by rw [← e2]; exact hk)
          rw [← e2, hr] at this
          cases this
        · cases hu
      · cases hu
end K02

set_option maxRecDepth 100000
set_option maxHeartbeats 4000000
namespace K02
open PyEv PySem
/-! ### _law_read, run -/
theorem six1 {n d : Nat} : HT.sIx n d (some 1) = min 1 n := six_nat (k := 1) rfl
theorem six_neg {n d : Nat} (h : 1 ≤ n) : HT.sIx n d (some (-1)) = n - 1 := by
  show (if (-1 : Int) < 0 then (-1 + (n : Int)).toNat else min (-1 : Int).toNat n) = n - 1
  rw [if_pos (by decide)]
  omega
theorem cut_neg1 {L p w : List Nat} {d : Nat} {i : Int} (e : L = p ++ (w ++ [d])) (hi : i = (p.length : Int)) : L2.cutS (tx L) (some i) (some (-1)) = tx w := by
  subst e
  unfold L2.cutS
  rw [six_nat hi, six_neg (by simp; omega), tx_cps, tx_len]
  have e1 : min p.length (p ++ (w ++ [d])).length = p.length := by simp
  have e2 : (p ++ (w ++ [d])).length - 1 - p.length = w.length := by simp only [List.length_append, List.length_cons, List.length_nil]; omega
  rw [e1, e2, List.drop_left, List.take_left]
  rfl
theorem cut_short {l : List Nat} (h : l.length ≤ 1) : L2.cutS (tx l) (some 1) (some (-1)) = tx [] := by
  unfold L2.cutS
  rw [six1, tx_cps, tx_len]
  have e1 : l.drop (min 1 l.length) = [] := by
    apply List.drop_eq_nil_of_le; omega
  rw [e1]
  simp [tx]
theorem slc_d {s : Str} {lo hi : Option Int} (h : s.length ≤ 1000000) : slcF (.str s) lo hi = some (.d (.str (L2.cutS s lo hi))) := by
  show (if s.length ≤ line then some (PyEv.W.d (.str (L2.cutS s lo hi))) else none) = _
  rw [if_pos (by unfold line; omega)]
theorem cut_head {c : Nat} {r : List Nat} : L2.cutS (tx (c :: r)) none (some 1) = tx [c] := by
  unfold L2.cutS
  rw [six1, tx_cps, tx_len]
  have e1 : HT.sIx (c :: r).length 0 none = 0 := rfl
  have e2 : min 1 (c :: r).length = 1 := by simp
  rw [e1, e2]
  simp [tx]
theorem cut_last {l : List Nat} {d : Nat} : L2.cutS (tx (l ++ [d])) (some (-1)) none = tx [d] := by
  unfold L2.cutS
  rw [six_neg (by simp), tx_cps, tx_len]
  have e1 : HT.sIx (l ++ [d]).length (l ++ [d]).length none = (l ++ [d]).length := rfl
  have e2 : (l ++ [d]).length - 1 = l.length := by simp
  rw [e1, e2]
  simp [tx]
theorem cut_nil {lo hi : Option Int} : L2.cutS (tx []) lo hi = tx [] := by
  unfold L2.cutS
  simp [tx]
/-- the first and the last sign -/
def both (l : List Nat) : List Nat := l.take 1 ++ l.drop (l.length - 1)
theorem both_at {l : List Nat} (hl : l.length ≤ 100000) : ∃ a b, slcF (.str (tx l)) none (some 1) = some (.d (.str a)) ∧ slcF (.str (tx l)) (some (-1)) none = some (.d (.str b)) ∧ binF .add (.str a) (.str b) = some (.d (.str (tx (both l)))) := by
  refine ⟨tx (l.take 1), tx (l.drop (l.length - 1)), ?_, ?_, o_tx (by simp; omega)⟩
  · rw [slc_d (by rw [tx_len]; omega)]
    cases l with
    | nil => rw [cut_nil]; rfl
    | cons c r => rw [cut_head]; rfl
  · rw [slc_d (by rw [tx_len]; omega)]
    rcases List.eq_nil_or_concat l with rfl | ⟨l', d, rfl⟩
    · rw [cut_nil]; rfl
    · rw [List.concat_eq_append, cut_last]; simp
theorem isin_tup {a : D} {p : PyData} {ys : List D} {qs : List PyData} (ha : a.py = some p) (hn : ∀ (x : Str) (ks : List Str) (vs : List D), ¬ (a = .str x ∧ D.tup ys = .dct ks vs)) (hy : D.pyL ys = some qs) (op : okP p = true) (oq : okPs qs = true) (d1 : p.depth ≤ 60) (d2 : PyData.depthAll qs ≤ 60) : isinF a (.tup ys) = some (qs.any fun z => PyData.eqv z p) := by
  have e : isinF a (.tup ys) = (match a.py, D.pyL ys with
    | some p, some qs => if SeqAt.shaped p && SeqAt.shaped (.tuple qs) then some (qs.any fun z => PyData.eqv z p) else none
    | _, _ => none) := by cases a <;> rfl
  rw [e, ha, hy]
  show (if (SeqAt.shaped p && SeqAt.shaped (.tuple qs)) = true then some (qs.any fun z => PyData.eqv z p) else none) = _
  rw [shaped_of op (by omega), shaped_of (p := .tuple qs) (by simp only [okP]; exact oq) (by simp only [PyData.depth]; omega)]
  rfl
theorem isin_strs {z : Str} {ws : List Str} (hz : okP (.str z) = true) (hw : ∀ s ∈ ws, okP (.str s) = true) : isinF (.str z) (.tup (ws.map D.str)) = some (ws.contains z) := by
  have hp : D.pyL (ws.map D.str) = some (ws.map PyData.str) := pyL_map _ fun p _ => rfl
  rw [isin_tup (p := .str z) rfl (fun x ks vs h => by cases h.2) hp hz (okPs_all _ fun x hx => by obtain ⟨s, hs, rfl⟩ := List.mem_map.mp hx; exact hw s hs) (by simp [PyData.depth]) (depthAll_le _ fun x hx => by obtain ⟨s, hs, rfl⟩ := List.mem_map.mp hx; simp [PyData.depth])]
  congr 1
  rw [List.any_map, List.contains_eq_any_beq]
  congr 1
  funext s
  simp only [Function.comp, PyData.eqv]
  exact Bool.beq_comm
def Asc (l : List Nat) : Prop := ∀ c ∈ l, c < 128
theorem asc_ok {l : List Nat} (h : Asc l) : okP (.str (tx l)) = true := by
  simp only [okP, List.all_eq_true, decide_eq_true_eq]
  intro c hc
  have := h c hc
  omega
theorem both_asc {l : List Nat} (h : Asc l) : Asc (both l) := fun c hc => by
  rcases List.mem_append.mp hc with hc | hc
  · exact h c (List.mem_of_mem_take hc)
  · exact h c (List.mem_of_mem_drop hc)
theorem in_br {z : Str} (h : okP (.str z) = true) : isinF (.str z) (.tup [.str "()", .str "[]"]) = some (([("()" : Str), "[]"]).contains z) := isin_strs (ws := ["()", "[]"]) h (by decide)
theorem both_none {l : List Nat} (h : brk l = none) : ([("()" : Str), "[]"]).contains (tx (both l)) = false := by
  have key : ¬ both l = [40, 41] ∧ ¬ both l = [91, 93] := by
    cases l with
    | nil => exact ⟨by simp [both], by simp [both]⟩
    | cons c r =>
      rcases List.eq_nil_or_concat r with rfl | ⟨r', d, rfl⟩
      · exact ⟨by simp [both]; omega, by simp [both]; omega⟩
      · rw [List.concat_eq_append] at h ⊢
        have eb : both (c :: (r' ++ [d])) = [c, d] := by simp [both]
        rw [eb]
        rw [brk_cons] at h
        refine ⟨fun e => ?_, fun e => ?_⟩
        · simp only [List.cons.injEq, and_true] at e
          obtain ⟨rfl, rfl⟩ := e
          rw [if_pos ⟨rfl, by simp [cl]⟩] at h
          cases h
        · simp only [List.cons.injEq, and_true] at e
          obtain ⟨rfl, rfl⟩ := e
          rw [if_pos ⟨rfl, by simp [cl]⟩] at h
          cases h
  have e1 : ("()" : Str) = tx [40, 41] := rfl
  have e2 : ("[]" : Str) = tx [91, 93] := rfl
  rw [e1, e2]
  simp [tx_inj, key.1, key.2]
theorem both_some {q : Bool} {m : List Nat} : ([("()" : Str), "[]"]).contains (tx (both (op q :: (m ++ [cl q])))) = true := by
  have eb : both (op q :: (m ++ [cl q])) = [op q, cl q] := by simp [both]
  rw [eb]
  cases q <;> decide
section
variable {n : Nat} {T a b z z0 : Str} {e i : Int} {o1 o2 o3 : PyEv.Env} {x y : D} {cuts : List D} {p3 p4 : Option PyEv.W}
theorem rl_name (h1 : callF P n "_law_is_name" [.d (.str T)] = .ok (.d (.bl true)) o1) : Ret P (n + 1) "_law_read" [.d (.str T)] (.d (.str T)) := by
  refine ret_x Has.lk rfl ?_
  show ∃ v e, evSs P (callF P n) [0] b__law_read [some (.d (.str T)), none, none, none, none, none, none] = .rt v e ∧ v = _
  unfold b__law_read
  simp only [evSs, evS, evE, evIts, evAs, evIt, evJs, Res.bind, Res.fl, Res.of, Fl.then, use, useB, item, take, slot_z, slot_s, nxO, stor, assignTg, W.frz, callA, bindA, bkn, bkc, useAll, C.d, E.isNone, partB, Option.bind, Option.map, Has.lk, Con.gl, Exn.ex, List.length_cons, List.length_nil, List.set_cons_zero, List.set_cons_succ, List.contains_cons, List.contains_nil, beq_iff_eq, Nat.reduceAdd, Nat.reduceLeDiff, Nat.reduceEqDiff, Nat.reduceBEq, Nat.reduceBNe, Int.reduceNeg, if_true, if_false, or_self, or_false, false_or, or_true, true_or, and_self, and_true, true_and, Bool.or_false, Bool.or_true, Bool.false_or, Bool.true_or, Bool.and_true, Bool.true_and, Bool.and_false, Bool.false_and, Bool.false_eq_true, Bool.not_true, Bool.not_false, decide_eq_true_eq, decide_true, decide_false, not_true_eq_false, not_false_eq_true, reduceIte, reduceCtorEq, Bool.not_eq_true', decide_eq_false_iff_not, List.cons_append, List.nil_append, List.append_nil, Nat.zero_le, Int.reduceEq, Int.reduceLT, Int.reduceLE, eq_self, cast0, cast1, cast2, cast3, cast4, cast5, cast6, cast7, cast8, cast9, en_l, en_t, en_s, if_t, if_l, lit_line, l_str, m_app, m_ext, o_adds, o_addl, o_addt, rv_s, binAdd, binSub, c_lt, c_le, c_gt, c_ge, isN_eq, notN_eq, nin_eq, in_eq, eq_eq2, ne_eq2, eqF_s, eqF_i, xdd, xtt, xll, at0, at1, at2, nn_non, nn_t, nn_l, nn_s, nn_i, nn_b, nn_c, nn_x, l_tup, l_lst, b_tt, b_tl, b_lt, b_ll, b_ii, b_repr2, b_all2, b_any2, rv_t, ty_1, ty_2, ty_3, ty_4, ty_5, ty_6, ty_7, ty_8, ty_9, ty_10, ty_11, ty_12, ty_13, ty_14, ty_15, ty_16, ty_17, ty_18, ty_19, ty_20, ty_21, ty_22, ty_23, ty_24, ty_25, ty_26, ty_27, ty_28, *]
  refine ⟨_, _, rfl, ?_⟩
  rfl
theorem rl_out (h1 : callF P n "_law_is_name" [.d (.str T)] = .ok (.d (.bl false)) o1) (h2 : slcF (.str T) none (some 1) = some (.d (.str a))) (h3 : slcF (.str T) (some (-1)) none = some (.d (.str b))) (h4 : binF .add (.str a) (.str b) = some (.d (.str z))) (h5 : isinF (.str z) (.tup [.str "()", .str "[]"]) = some false) : Ret P (n + 1) "_law_read" [.d (.str T)] (.d .non) := by
  refine ret_x Has.lk rfl ?_
  show ∃ v e, evSs P (callF P n) [0] b__law_read [some (.d (.str T)), none, none, none, none, none, none] = .rt v e ∧ v = _
  unfold b__law_read
  simp only [evSs, evS, evE, evIts, evAs, evIt, evJs, Res.bind, Res.fl, Res.of, Fl.then, use, useB, item, take, slot_z, slot_s, nxO, stor, assignTg, W.frz, callA, bindA, bkn, bkc, useAll, C.d, E.isNone, partB, Option.bind, Option.map, Has.lk, Con.gl, Exn.ex, List.length_cons, List.length_nil, List.set_cons_zero, List.set_cons_succ, List.contains_cons, List.contains_nil, beq_iff_eq, Nat.reduceAdd, Nat.reduceLeDiff, Nat.reduceEqDiff, Nat.reduceBEq, Nat.reduceBNe, Int.reduceNeg, if_true, if_false, or_self, or_false, false_or, or_true, true_or, and_self, and_true, true_and, Bool.or_false, Bool.or_true, Bool.false_or, Bool.true_or, Bool.and_true, Bool.true_and, Bool.and_false, Bool.false_and, Bool.false_eq_true, Bool.not_true, Bool.not_false, decide_eq_true_eq, decide_true, decide_false, not_true_eq_false, not_false_eq_true, reduceIte, reduceCtorEq, Bool.not_eq_true', decide_eq_false_iff_not, List.cons_append, List.nil_append, List.append_nil, Nat.zero_le, Int.reduceEq, Int.reduceLT, Int.reduceLE, eq_self, cast0, cast1, cast2, cast3, cast4, cast5, cast6, cast7, cast8, cast9, en_l, en_t, en_s, if_t, if_l, lit_line, l_str, m_app, m_ext, o_adds, o_addl, o_addt, rv_s, binAdd, binSub, c_lt, c_le, c_gt, c_ge, isN_eq, notN_eq, nin_eq, in_eq, eq_eq2, ne_eq2, eqF_s, eqF_i, xdd, xtt, xll, at0, at1, at2, nn_non, nn_t, nn_l, nn_s, nn_i, nn_b, nn_c, nn_x, l_tup, l_lst, b_tt, b_tl, b_lt, b_ll, b_ii, b_repr2, b_all2, b_any2, rv_t, ty_1, ty_2, ty_3, ty_4, ty_5, ty_6, ty_7, ty_8, ty_9, ty_10, ty_11, ty_12, ty_13, ty_14, ty_15, ty_16, ty_17, ty_18, ty_19, ty_20, ty_21, ty_22, ty_23, ty_24, ty_25, ty_26, ty_27, ty_28, *]
  refine ⟨_, _, rfl, ?_⟩
  rfl
theorem rl_cuts (h1 : callF P n "_law_is_name" [.d (.str T)] = .ok (.d (.bl false)) o1) (h2 : slcF (.str T) none (some 1) = some (.d (.str a))) (h3 : slcF (.str T) (some (-1)) none = some (.d (.str b))) (h4 : binF .add (.str a) (.str b) = some (.d (.str z))) (h5 : isinF (.str z) (.tup [.str "()", .str "[]"]) = some true)
    (h6 : evS P (callF P n) [0] for__law_read_0 [some (.d (.str T)), some (.d (.int 0)), some (.lst []), none, none, none, none] = .nx [some (.d (.str T)), some (.d (.int e)), some (.lst cuts), p3, p4, none, none])
    (h7 : ¬ ((cuts.length : Int) = 1) ∨ (((cuts.length : Int) = 1) ∧ ¬ e = 0)) : Ret P (n + 1) "_law_read" [.d (.str T)] (.d .non) := by
  refine ret_x Has.lk rfl ?_
  show ∃ v e, evSs P (callF P n) [0] b__law_read [some (.d (.str T)), none, none, none, none, none, none] = .rt v e ∧ v = _
  unfold b__law_read
  rcases h7 with h7 | ⟨h7, h8⟩
  · simp only [evSs, evS, evE, evIts, evAs, evIt, evJs, Res.bind, Res.fl, Res.of, Fl.then, use, useB, item, take, slot_z, slot_s, nxO, stor, assignTg, W.frz, callA, bindA, bkn, bkc, useAll, C.d, E.isNone, partB, Option.bind, Option.map, Has.lk, Con.gl, Exn.ex, List.length_cons, List.length_nil, List.set_cons_zero, List.set_cons_succ, List.contains_cons, List.contains_nil, beq_iff_eq, Nat.reduceAdd, Nat.reduceLeDiff, Nat.reduceEqDiff, Nat.reduceBEq, Nat.reduceBNe, Int.reduceNeg, if_true, if_false, or_self, or_false, false_or, or_true, true_or, and_self, and_true, true_and, Bool.or_false, Bool.or_true, Bool.false_or, Bool.true_or, Bool.and_true, Bool.true_and, Bool.and_false, Bool.false_and, Bool.false_eq_true, Bool.not_true, Bool.not_false, decide_eq_true_eq, decide_true, decide_false, not_true_eq_false, not_false_eq_true, reduceIte, reduceCtorEq, Bool.not_eq_true', decide_eq_false_iff_not, List.cons_append, List.nil_append, List.append_nil, Nat.zero_le, Int.reduceEq, Int.reduceLT, Int.reduceLE, eq_self, cast0, cast1, cast2, cast3, cast4, cast5, cast6, cast7, cast8, cast9, en_l, en_t, en_s, if_t, if_l, lit_line, l_str, m_app, m_ext, o_adds, o_addl, o_addt, rv_s, binAdd, binSub, c_lt, c_le, c_gt, c_ge, isN_eq, notN_eq, nin_eq, in_eq, eq_eq2, ne_eq2, eqF_s, eqF_i, xdd, xtt, xll, at0, at1, at2, nn_non, nn_t, nn_l, nn_s, nn_i, nn_b, nn_c, nn_x, l_tup, l_lst, b_tt, b_tl, b_lt, b_ll, b_ii, b_repr2, b_all2, b_any2, rv_t, ty_1, ty_2, ty_3, ty_4, ty_5, ty_6, ty_7, ty_8, ty_9, ty_10, ty_11, ty_12, ty_13, ty_14, ty_15, ty_16, ty_17, ty_18, ty_19, ty_20, ty_21, ty_22, ty_23, ty_24, ty_25, ty_26, ty_27, ty_28, *]
    refine ⟨_, _, rfl, ?_⟩
    rfl
  · simp only [evSs, evS, evE, evIts, evAs, evIt, evJs, Res.bind, Res.fl, Res.of, Fl.then, use, useB, item, take, slot_z, slot_s, nxO, stor, assignTg, W.frz, callA, bindA, bkn, bkc, useAll, C.d, E.isNone, partB, Option.bind, Option.map, Has.lk, Con.gl, Exn.ex, List.length_cons, List.length_nil, List.set_cons_zero, List.set_cons_succ, List.contains_cons, List.contains_nil, beq_iff_eq, Nat.reduceAdd, Nat.reduceLeDiff, Nat.reduceEqDiff, Nat.reduceBEq, Nat.reduceBNe, Int.reduceNeg, if_true, if_false, or_self, or_false, false_or, or_true, true_or, and_self, and_true, true_and, Bool.or_false, Bool.or_true, Bool.false_or, Bool.true_or, Bool.and_true, Bool.true_and, Bool.and_false, Bool.false_and, Bool.false_eq_true, Bool.not_true, Bool.not_false, decide_eq_true_eq, decide_true, decide_false, not_true_eq_false, not_false_eq_true, reduceIte, reduceCtorEq, Bool.not_eq_true', decide_eq_false_iff_not, List.cons_append, List.nil_append, List.append_nil, Nat.zero_le, Int.reduceEq, Int.reduceLT, Int.reduceLE, eq_self, cast0, cast1, cast2, cast3, cast4, cast5, cast6, cast7, cast8, cast9, en_l, en_t, en_s, if_t, if_l, lit_line, l_str, m_app, m_ext, o_adds, o_addl, o_addt, rv_s, binAdd, binSub, c_lt, c_le, c_gt, c_ge, isN_eq, notN_eq, nin_eq, in_eq, eq_eq2, ne_eq2, eqF_s, eqF_i, xdd, xtt, xll, at0, at1, at2, nn_non, nn_t, nn_l, nn_s, nn_i, nn_b, nn_c, nn_x, l_tup, l_lst, b_tt, b_tl, b_lt, b_ll, b_ii, b_repr2, b_all2, b_any2, rv_t, ty_1, ty_2, ty_3, ty_4, ty_5, ty_6, ty_7, ty_8, ty_9, ty_10, ty_11, ty_12, ty_13, ty_14, ty_15, ty_16, ty_17, ty_18, ty_19, ty_20, ty_21, ty_22, ty_23, ty_24, ty_25, ty_26, ty_27, ty_28, *]
    refine ⟨_, _, rfl, ?_⟩
    rfl
theorem rl_one {u1 u2 : Str} (h1 : callF P n "_law_is_name" [.d (.str T)] = .ok (.d (.bl false)) o1) (h2 : slcF (.str T) none (some 1) = some (.d (.str a))) (h3 : slcF (.str T) (some (-1)) none = some (.d (.str b))) (h4 : binF .add (.str a) (.str b) = some (.d (.str z))) (h5 : isinF (.str z) (.tup [.str "()", .str "[]"]) = some true)
    (h6 : evS P (callF P n) [0] for__law_read_0 [some (.d (.str T)), some (.d (.int 0)), some (.lst []), none, none, none, none] = .nx [some (.d (.str T)), some (.d (.int 0)), some (.lst [.int i]), p3, p4, none, none])
    (h7 : slcF (.str T) (some 1) (some i) = some (.d (.str u1))) (h8 : slcF (.str T) (some (i + 1)) (some (-1)) = some (.d (.str u2)))
    (h9 : callF P n "_law_read" [.d (.str u1)] = .ok (.d x) o2) (h10 : callF P n "_law_read" [.d (.str u2)] = .ok (.d y) o3)
    (hx : x.isNon = true ∨ (x.isNon = false ∧ y.isNon = true)) : Ret P (n + 1) "_law_read" [.d (.str T)] (.d .non) := by
  refine ret_x Has.lk rfl ?_
  show ∃ v e, evSs P (callF P n) [0] b__law_read [some (.d (.str T)), none, none, none, none, none, none] = .rt v e ∧ v = _
  unfold b__law_read
  have hl : (([D.int i] : List D).length : Int) = 1 := rfl
  rcases hx with hx | ⟨hx, hy⟩
  · simp only [evSs, evS, evE, evIts, evAs, evIt, evJs, Res.bind, Res.fl, Res.of, Fl.then, use, useB, item, take, slot_z, slot_s, nxO, stor, assignTg, W.frz, callA, bindA, bkn, bkc, useAll, C.d, E.isNone, partB, Option.bind, Option.map, Has.lk, Con.gl, Exn.ex, List.length_cons, List.length_nil, List.set_cons_zero, List.set_cons_succ, List.contains_cons, List.contains_nil, beq_iff_eq, Nat.reduceAdd, Nat.reduceLeDiff, Nat.reduceEqDiff, Nat.reduceBEq, Nat.reduceBNe, Int.reduceNeg, if_true, if_false, or_self, or_false, false_or, or_true, true_or, and_self, and_true, true_and, Bool.or_false, Bool.or_true, Bool.false_or, Bool.true_or, Bool.and_true, Bool.true_and, Bool.and_false, Bool.false_and, Bool.false_eq_true, Bool.not_true, Bool.not_false, decide_eq_true_eq, decide_true, decide_false, not_true_eq_false, not_false_eq_true, reduceIte, reduceCtorEq, Bool.not_eq_true', decide_eq_false_iff_not, List.cons_append, List.nil_append, List.append_nil, Nat.zero_le, Int.reduceEq, Int.reduceLT, Int.reduceLE, eq_self, cast0, cast1, cast2, cast3, cast4, cast5, cast6, cast7, cast8, cast9, en_l, en_t, en_s, if_t, if_l, lit_line, l_str, m_app, m_ext, o_adds, o_addl, o_addt, rv_s, binAdd, binSub, c_lt, c_le, c_gt, c_ge, isN_eq, notN_eq, nin_eq, in_eq, eq_eq2, ne_eq2, eqF_s, eqF_i, xdd, xtt, xll, at0, at1, at2, nn_non, nn_t, nn_l, nn_s, nn_i, nn_b, nn_c, nn_x, l_tup, l_lst, b_tt, b_tl, b_lt, b_ll, b_ii, b_repr2, b_all2, b_any2, rv_t, ty_1, ty_2, ty_3, ty_4, ty_5, ty_6, ty_7, ty_8, ty_9, ty_10, ty_11, ty_12, ty_13, ty_14, ty_15, ty_16, ty_17, ty_18, ty_19, ty_20, ty_21, ty_22, ty_23, ty_24, ty_25, ty_26, ty_27, ty_28, *]
    refine ⟨_, _, rfl, ?_⟩
    rfl
  · simp only [evSs, evS, evE, evIts, evAs, evIt, evJs, Res.bind, Res.fl, Res.of, Fl.then, use, useB, item, take, slot_z, slot_s, nxO, stor, assignTg, W.frz, callA, bindA, bkn, bkc, useAll, C.d, E.isNone, partB, Option.bind, Option.map, Has.lk, Con.gl, Exn.ex, List.length_cons, List.length_nil, List.set_cons_zero, List.set_cons_succ, List.contains_cons, List.contains_nil, beq_iff_eq, Nat.reduceAdd, Nat.reduceLeDiff, Nat.reduceEqDiff, Nat.reduceBEq, Nat.reduceBNe, Int.reduceNeg, if_true, if_false, or_self, or_false, false_or, or_true, true_or, and_self, and_true, true_and, Bool.or_false, Bool.or_true, Bool.false_or, Bool.true_or, Bool.and_true, Bool.true_and, Bool.and_false, Bool.false_and, Bool.false_eq_true, Bool.not_true, Bool.not_false, decide_eq_true_eq, decide_true, decide_false, not_true_eq_false, not_false_eq_true, reduceIte, reduceCtorEq, Bool.not_eq_true', decide_eq_false_iff_not, List.cons_append, List.nil_append, List.append_nil, Nat.zero_le, Int.reduceEq, Int.reduceLT, Int.reduceLE, eq_self, cast0, cast1, cast2, cast3, cast4, cast5, cast6, cast7, cast8, cast9, en_l, en_t, en_s, if_t, if_l, lit_line, l_str, m_app, m_ext, o_adds, o_addl, o_addt, rv_s, binAdd, binSub, c_lt, c_le, c_gt, c_ge, isN_eq, notN_eq, nin_eq, in_eq, eq_eq2, ne_eq2, eqF_s, eqF_i, xdd, xtt, xll, at0, at1, at2, nn_non, nn_t, nn_l, nn_s, nn_i, nn_b, nn_c, nn_x, l_tup, l_lst, b_tt, b_tl, b_lt, b_ll, b_ii, b_repr2, b_all2, b_any2, rv_t, ty_1, ty_2, ty_3, ty_4, ty_5, ty_6, ty_7, ty_8, ty_9, ty_10, ty_11, ty_12, ty_13, ty_14, ty_15, ty_16, ty_17, ty_18, ty_19, ty_20, ty_21, ty_22, ty_23, ty_24, ty_25, ty_26, ty_27, ty_28, *]
    refine ⟨_, _, rfl, ?_⟩
    rfl
theorem rl_both {u1 u2 : Str} {q : Bool} (h1 : callF P n "_law_is_name" [.d (.str T)] = .ok (.d (.bl false)) o1) (h2 : slcF (.str T) none (some 1) = some (.d (.str a))) (h3 : slcF (.str T) (some (-1)) none = some (.d (.str b))) (h4 : binF .add (.str a) (.str b) = some (.d (.str z))) (h5 : isinF (.str z) (.tup [.str "()", .str "[]"]) = some true)
    (h6 : evS P (callF P n) [0] for__law_read_0 [some (.d (.str T)), some (.d (.int 0)), some (.lst []), none, none, none, none] = .nx [some (.d (.str T)), some (.d (.int 0)), some (.lst [.int i]), p3, p4, none, none])
    (h7 : slcF (.str T) (some 1) (some i) = some (.d (.str u1))) (h8 : slcF (.str T) (some (i + 1)) (some (-1)) = some (.d (.str u2)))
    (h9 : callF P n "_law_read" [.d (.str u1)] = .ok (.d x) o2) (h10 : callF P n "_law_read" [.d (.str u2)] = .ok (.d y) o3)
    (hx : x.isNon = false) (hy : y.isNon = false) (hz : ixF (.str T) (.int 0) = some (.str (tx [op q]))) : Ret P (n + 1) "_law_read" [.d (.str T)] (.d (.tup [.str (side q), x, y])) := by
  refine ret_x Has.lk rfl ?_
  show ∃ v e, evSs P (callF P n) [0] b__law_read [some (.d (.str T)), none, none, none, none, none, none] = .rt v e ∧ v = _
  unfold b__law_read
  have hl : (([D.int i] : List D).length : Int) = 1 := rfl
  cases q with
  | true =>
    have hq : tx [op true] = "(" := rfl
    generalize tx [op true] = zz at *
    simp only [evSs, evS, evE, evIts, evAs, evIt, evJs, Res.bind, Res.fl, Res.of, Fl.then, use, useB, item, take, slot_z, slot_s, nxO, stor, assignTg, W.frz, callA, bindA, bkn, bkc, useAll, C.d, E.isNone, partB, Option.bind, Option.map, Has.lk, Con.gl, Exn.ex, List.length_cons, List.length_nil, List.set_cons_zero, List.set_cons_succ, List.contains_cons, List.contains_nil, beq_iff_eq, Nat.reduceAdd, Nat.reduceLeDiff, Nat.reduceEqDiff, Nat.reduceBEq, Nat.reduceBNe, Int.reduceNeg, if_true, if_false, or_self, or_false, false_or, or_true, true_or, and_self, and_true, true_and, Bool.or_false, Bool.or_true, Bool.false_or, Bool.true_or, Bool.and_true, Bool.true_and, Bool.and_false, Bool.false_and, Bool.false_eq_true, Bool.not_true, Bool.not_false, decide_eq_true_eq, decide_true, decide_false, not_true_eq_false, not_false_eq_true, reduceIte, reduceCtorEq, Bool.not_eq_true', decide_eq_false_iff_not, List.cons_append, List.nil_append, List.append_nil, Nat.zero_le, Int.reduceEq, Int.reduceLT, Int.reduceLE, eq_self, cast0, cast1, cast2, cast3, cast4, cast5, cast6, cast7, cast8, cast9, en_l, en_t, en_s, if_t, if_l, lit_line, l_str, m_app, m_ext, o_adds, o_addl, o_addt, rv_s, binAdd, binSub, c_lt, c_le, c_gt, c_ge, isN_eq, notN_eq, nin_eq, in_eq, eq_eq2, ne_eq2, eqF_s, eqF_i, xdd, xtt, xll, at0, at1, at2, nn_non, nn_t, nn_l, nn_s, nn_i, nn_b, nn_c, nn_x, l_tup, l_lst, b_tt, b_tl, b_lt, b_ll, b_ii, b_repr2, b_all2, b_any2, rv_t, ty_1, ty_2, ty_3, ty_4, ty_5, ty_6, ty_7, ty_8, ty_9, ty_10, ty_11, ty_12, ty_13, ty_14, ty_15, ty_16, ty_17, ty_18, ty_19, ty_20, ty_21, ty_22, ty_23, ty_24, ty_25, ty_26, ty_27, ty_28, *]
    refine ⟨_, _, rfl, ?_⟩
    rfl
  | false =>
    have hq : ¬ tx [op false] = "(" := by decide
    generalize tx [op false] = zz at *
    simp only [evSs, evS, evE, evIts, evAs, evIt, evJs, Res.bind, Res.fl, Res.of, Fl.then, use, useB, item, take, slot_z, slot_s, nxO, stor, assignTg, W.frz, callA, bindA, bkn, bkc, useAll, C.d, E.isNone, partB, Option.bind, Option.map, Has.lk, Con.gl, Exn.ex, List.length_cons, List.length_nil, List.set_cons_zero, List.set_cons_succ, List.contains_cons, List.contains_nil, beq_iff_eq, Nat.reduceAdd, Nat.reduceLeDiff, Nat.reduceEqDiff, Nat.reduceBEq, Nat.reduceBNe, Int.reduceNeg, if_true, if_false, or_self, or_false, false_or, or_true, true_or, and_self, and_true, true_and, Bool.or_false, Bool.or_true, Bool.false_or, Bool.true_or, Bool.and_true, Bool.true_and, Bool.and_false, Bool.false_and, Bool.false_eq_true, Bool.not_true, Bool.not_false, decide_eq_true_eq, decide_true, decide_false, not_true_eq_false, not_false_eq_true, reduceIte, reduceCtorEq, Bool.not_eq_true', decide_eq_false_iff_not, List.cons_append, List.nil_append, List.append_nil, Nat.zero_le, Int.reduceEq, Int.reduceLT, Int.reduceLE, eq_self, cast0, cast1, cast2, cast3, cast4, cast5, cast6, cast7, cast8, cast9, en_l, en_t, en_s, if_t, if_l, lit_line, l_str, m_app, m_ext, o_adds, o_addl, o_addt, rv_s, binAdd, binSub, c_lt, c_le, c_gt, c_ge, isN_eq, notN_eq, nin_eq, in_eq, eq_eq2, ne_eq2, eqF_s, eqF_i, xdd, xtt, xll, at0, at1, at2, nn_non, nn_t, nn_l, nn_s, nn_i, nn_b, nn_c, nn_x, l_tup, l_lst, b_tt, b_tl, b_lt, b_ll, b_ii, b_repr2, b_all2, b_any2, rv_t, ty_1, ty_2, ty_3, ty_4, ty_5, ty_6, ty_7, ty_8, ty_9, ty_10, ty_11, ty_12, ty_13, ty_14, ty_15, ty_16, ty_17, ty_18, ty_19, ty_20, ty_21, ty_22, ty_23, ty_24, ty_25, ty_26, ty_27, ty_28, *]
    refine ⟨_, _, rfl, ?_⟩
    rfl
end
theorem for_read_at {n : Nat} {l m : List Nat} (hl : l.length ≤ 1000) (hm : m.length ≤ 1000) (hs : slcF (.str (tx l)) (some 1) (some (-1)) = some (.d (.str (tx m)))) : ∃ p3 p4, evS P (callF P n) [0] for__law_read_0 [some (.d (.str (tx l))), some (.d (.int 0)), some (.lst []), none, none, none, none] =
    .nx [some (.d (.str (tx l))), some (.d (.int (scan 0 0 m).1)), some (.lst ((scan 0 0 m).2.map fun (k : Nat) => D.int ((k : Int) + 1))), p3, p4, none, none] := by
  obtain ⟨p3, p4, h⟩ := scan_loop (cf := callF P n) (t := .d (.str (tx l))) m 0 0 [] none none (by simp; omega)
  refine ⟨p3, p4, ?_⟩
  rw [for_read]
  rw [List.nil_append] at h
  refine gs_for (P := P) (xs := enumL (signsD (tx m))) ?_ h
  clear h
  generalize tx m = M at *
  generalize tx l = L at *
  simp only [evSs, evS, evE, evIts, evAs, evIt, evJs, Res.bind, Res.fl, Res.of, Fl.then, use, useB, item, take, slot_z, slot_s, nxO, stor, assignTg, W.frz, callA, bindA, bkn, bkc, useAll, C.d, E.isNone, partB, Option.bind, Option.map, Has.lk, Con.gl, Exn.ex, List.length_cons, List.length_nil, List.set_cons_zero, List.set_cons_succ, List.contains_cons, List.contains_nil, beq_iff_eq, Nat.reduceAdd, Nat.reduceLeDiff, Nat.reduceEqDiff, Nat.reduceBEq, Nat.reduceBNe, Int.reduceNeg, if_true, if_false, or_self, or_false, false_or, or_true, true_or, and_self, and_true, true_and, Bool.or_false, Bool.or_true, Bool.false_or, Bool.true_or, Bool.and_true, Bool.true_and, Bool.and_false, Bool.false_and, Bool.false_eq_true, Bool.not_true, Bool.not_false, decide_eq_true_eq, decide_true, decide_false, not_true_eq_false, not_false_eq_true, reduceIte, reduceCtorEq, Bool.not_eq_true', decide_eq_false_iff_not, List.cons_append, List.nil_append, List.append_nil, Nat.zero_le, Int.reduceEq, Int.reduceLT, Int.reduceLE, eq_self, cast0, cast1, cast2, cast3, cast4, cast5, cast6, cast7, cast8, cast9, en_l, en_t, en_s, if_t, if_l, lit_line, l_str, m_app, m_ext, o_adds, o_addl, o_addt, rv_s, binAdd, binSub, c_lt, c_le, c_gt, c_ge, isN_eq, notN_eq, nin_eq, in_eq, eq_eq2, ne_eq2, eqF_s, eqF_i, xdd, xtt, xll, at0, at1, at2, nn_non, nn_t, nn_l, nn_s, nn_i, nn_b, nn_c, nn_x, l_tup, l_lst, b_tt, b_tl, b_lt, b_ll, b_ii, b_repr2, b_all2, b_any2, rv_t, ty_1, ty_2, ty_3, ty_4, ty_5, ty_6, ty_7, ty_8, ty_9, ty_10, ty_11, ty_12, ty_13, ty_14, ty_15, ty_16, ty_17, ty_18, ty_19, ty_20, ty_21, ty_22, ty_23, ty_24, ty_25, ty_26, ty_27, ty_28, *]
theorem law_read_d : ∀ (k n : Nat) {l : List Nat}, l.length ≤ 3 * k + 2 → l.length ≤ 1000 → Asc l → Ret P (n + k + 2) "_law_read" [.d (.str (tx l))] (.d (optD (lwRead k l))) := by
  intro k
  induction k with
  | zero =>
    intro n l hk hl ha
    obtain ⟨o1, h1⟩ := law_is_name_s (P := P) (n := n) (cs := l) (by omega)
    unfold lwRead
    cases hn : nmB l with
    | true =>
      rw [hn] at h1
      exact rl_name h1
    | false =>
      rw [hn] at h1
      obtain ⟨a, b, h2, h3, h4⟩ := both_at (l := l) (by omega)
      have h5 := in_br (asc_ok (both_asc ha))
      cases hb : brk l with
      | none =>
        rw [both_none hb] at h5
        exact rl_out h1 h2 h3 h4 h5
      | some qm =>
        obtain ⟨q, m⟩ := qm
        have el := brk_some hb
        have hm : m = [] := by
          have := congrArg List.length el
          simp at this
          exact List.eq_nil_of_length_eq_zero (by omega)
        subst hm
        rw [el, both_some] at h5
        rw [← el] at h5
        have hs : slcF (.str (tx l)) (some 1) (some (-1)) = some (.d (.str (tx []))) := by
          rw [slc_d (by rw [tx_len]; omega), cut_neg1 (L := l) (i := 1) (p := [op q]) (w := []) (d := cl q) el rfl]
        obtain ⟨p3, p4, h6⟩ := for_read_at (n := n + 1) hl (by simp) hs
        exact rl_cuts h1 h2 h3 h4 h5 h6 (.inl (by simp [scan]))
  | succ k ih =>
    intro n l hk hl ha
    obtain ⟨o1, h1⟩ := law_is_name_s (P := P) (n := n + k + 1) (cs := l) (by omega)
    unfold lwRead
    cases hn : nmB l with
    | true =>
      rw [hn] at h1
      exact rl_name h1
    | false =>
      rw [hn] at h1
      obtain ⟨a, b, h2, h3, h4⟩ := both_at (l := l) (by omega)
      have h5 := in_br (asc_ok (both_asc ha))
      simp only [Bool.false_eq_true, if_false]
      cases hb : brk l with
      | none =>
        rw [both_none hb] at h5
        exact rl_out h1 h2 h3 h4 h5
      | some qm =>
        obtain ⟨q, m⟩ := qm
        have el := brk_some hb
        have ell : l.length = m.length + 2 := by rw [el]; simp
        rw [el, both_some] at h5
        rw [← el] at h5
        have hs : slcF (.str (tx l)) (some 1) (some (-1)) = some (.d (.str (tx m))) := by
          rw [slc_d (by rw [tx_len]; omega), cut_neg1 (L := l) (i := 1) (p := [op q]) (w := m) (d := cl q) el rfl]
        obtain ⟨p3, p4, h6⟩ := for_read_at (n := n + k + 2) hl (by omega) hs
        have am : Asc m := fun c hc => ha c (by rw [el]; simp [hc])
        simp only
        have hat : ∀ a' ∈ (scan 0 0 m).2, a' < m.length := fun a' h' => by
          have := (scan_at m 0 0 a' h').2
          simp only [Nat.sub_zero] at this
          exact (List.getElem?_eq_some_iff.mp this).1
        generalize scan 0 0 m = sc at *
        obtain ⟨e, cuts⟩ := sc
        simp only at h6 hat
        match cuts with
        | [] => exact rl_cuts h1 h2 h3 h4 h5 h6 (.inl (by simp))
        | _ :: _ :: _ => exact rl_cuts h1 h2 h3 h4 h5 h6 (.inl (by simp; omega))
        | [c] =>
          simp only
          by_cases he : e = 0
          · subst he
            simp only [if_true]
            have hc := hat c (by simp)
            have em : m = m.take c ++ m.drop c := (List.take_append_drop c m).symm
            have em2 : m = m.take (c + 1) ++ m.drop (c + 1) := (List.take_append_drop (c + 1) m).symm
            have h7 : slcF (.str (tx l)) (some 1) (some ((c : Int) + 1)) = some (.d (.str (tx (m.take c)))) := slc_mid (p := [op q]) (w := m.take c) (q := m.drop c ++ [cl q]) (by rw [el]; simp only [List.cons_append, List.nil_append, List.cons.injEq, true_and]; rw [← List.append_assoc, ← em]) rfl (by simp; omega) (by omega)
            have h8 : slcF (.str (tx l)) (some ((c : Int) + 1 + 1)) (some (-1)) = some (.d (.str (tx (m.drop (c + 1))))) := by
              rw [slc_d (by rw [tx_len]; omega), cut_neg1 (p := op q :: m.take (c + 1)) (w := m.drop (c + 1)) (d := cl q) (by rw [el]; simp only [List.cons_append, List.cons.injEq, true_and]; rw [← List.append_assoc, ← em2]) (by simp; omega)]
            obtain ⟨o2, h9⟩ := ih n (l := m.take c) (by rw [List.length_take]; omega) (by rw [List.length_take]; omega) (fun x hx => am x (List.mem_of_mem_take hx))
            obtain ⟨o3, h10⟩ := ih n (l := m.drop (c + 1)) (by rw [List.length_drop]; omega) (by rw [List.length_drop]; omega) (fun x hx => am x (List.mem_of_mem_drop hx))
            cases hx : lwRead k (m.take c) with
            | none =>
              rw [hx] at h9
              exact rl_one h1 h2 h3 h4 h5 h6 h7 h8 h9 h10 (.inl rfl)
            | some x =>
              rw [hx] at h9
              cases hy : lwRead k (m.drop (c + 1)) with
              | none =>
                rw [hy] at h10
                exact rl_one h1 h2 h3 h4 h5 h6 h7 h8 h9 h10 (.inr ⟨isNon_D x, rfl⟩)
              | some y =>
                rw [hy] at h10
                have hz : ixF (.str (tx l)) (.int 0) = some (.str (tx [op q])) := ix_mid (p := []) (q := m ++ [cl q]) (by rw [el]; rfl) rfl (by omega)
                exact rl_both h1 h2 h3 h4 h5 h6 h7 h8 h9 h10 (isNon_D x) (isNon_D y) hz
          · rw [if_neg he]
            exact rl_cuts h1 h2 h3 h4 h5 h6 (.inr ⟨by simp, he⟩)
end K02

set_option maxRecDepth 100000
set_option maxHeartbeats 4000000
namespace K02
open PyEv PySem
local macro_rules | `(tactic| infer_instance) => `(tactic| first | with_reducible assumption | with_reducible exact sl0 | (with_reducible apply slS) | with_reducible exact set0 | (with_reducible apply setS) | (with_reducible apply gs_raise) | (with_reducible apply q_ret) | (with_reducible apply q_if) | (with_reducible apply q_an) | (with_reducible apply q_ac) | (with_reducible apply q_nil) | (with_reducible apply q_c) | (with_reducible apply gs_set) | (with_reducible apply gs_par) | (with_reducible apply gs_unp) | (with_reducible apply gs_six) | (with_reducible apply gs_expr) | (with_reducible apply gs_pass) | (with_reducible apply sk_v) | (with_reducible apply sk_w) | (with_reducible apply pk_ww) | (with_reducible apply pk_v) | (with_reducible apply pk_wv) | (with_reducible apply xv) | (with_reducible apply xk_n) | (with_reducible apply xk_b) | (with_reducible apply xk_i) | (with_reducible apply xk_s) | (with_reducible apply xglob) | (with_reducible apply xtup) | (with_reducible apply xlst) | (with_reducible apply xdct) | (with_reducible apply xbin) | (with_reducible apply xneg) | (with_reducible apply xcmp) | (with_reducible apply xch) | (with_reducible apply xchk) | (with_reducible apply xandE) | (with_reducible apply xorE) | (with_reducible apply xnotE) | (with_reducible apply xif) | (with_reducible apply xcall) | (with_reducible apply xbi) | (with_reducible apply xmm) | (with_reducible apply xisi) | (with_reducible apply xix) | (with_reducible apply xslc) | (with_reducible apply po_n) | (with_reducible apply po_s) | (with_reducible apply xrev) | (with_reducible apply rv_t) | (with_reducible apply rv_s) | (with_reducible apply xfstr) | (with_reducible apply js_n) | (with_reducible apply js_c) | (with_reducible apply xbm) | (with_reducible apply xmut) | (with_reducible apply xlr) | (with_reducible apply is_nil) | (with_reducible apply is_c) | (with_reducible apply is_s) | (with_reducible apply aa_nil) | (with_reducible apply aa_c) | (with_reducible apply w_seq) | (with_reducible apply if_t) | (with_reducible apply if_l) | (with_reducible apply w_r1) | (with_reducible apply w_r2) | (with_reducible apply w_zip) | (with_reducible apply w_enum) | (with_reducible apply us_d) | (with_reducible apply us_l) | (with_reducible apply us_c) | (with_reducible apply us_v) | (with_reducible apply fz_d) | (with_reducible apply fz_l) | (with_reducible apply fz_c) | (with_reducible apply it_d) | (with_reducible apply it_l) | (with_reducible apply it_c) | (with_reducible apply it_v) | (with_reducible apply iw_d) | (with_reducible apply iw_l) | (with_reducible apply iw_c) | (with_reducible apply tk_w) | (with_reducible apply tk_v) | (with_reducible apply tw_d) | (with_reducible apply tw_l) | (with_reducible apply tw_c) | (with_reducible apply as1) | (with_reducible apply as2) | (with_reducible apply as3) | (with_reducible apply st_ok) | (with_reducible apply ba_nil) | (with_reducible apply ba_v) | (with_reducible apply ba_vr) | (with_reducible apply bv_d) | (with_reducible apply bv_l) | (with_reducible apply bv_c) | (with_reducible apply bk_nil) | (with_reducible apply bk_c) | (with_reducible apply ua_nil) | (with_reducible apply ua_c) | (with_reducible apply o_adds) | (with_reducible apply o_addt) | (with_reducible apply o_addl) | (with_reducible apply binAdd) | (with_reducible apply binSub) | (with_reducible apply c_eqs) | (with_reducible apply c_eqi) | (with_reducible apply c_nes) | (with_reducible apply c_nei) | (with_reducible apply c_lt) | (with_reducible apply c_le) | (with_reducible apply c_gt) | (with_reducible apply c_ge) | (with_reducible apply c_ink) | (with_reducible apply xmk) | (with_reducible apply xfldv) | (with_reducible apply xisx) | (with_reducible apply xisv) | (with_reducible apply ix_exc) | (with_reducible apply iv_exc) | (with_reducible apply gs_raise) | (with_reducible apply gs_tryraise) | (with_reducible apply cf_ex) | (with_reducible apply l_tup) | (with_reducible apply l_lst) | (with_reducible apply l_str) | (with_reducible apply l_scr) | (with_reducible apply b_tt) | (with_reducible apply b_tl) | (with_reducible apply b_lt) | (with_reducible apply b_ll) | (with_reducible apply b_all) | (with_reducible apply b_any) | (with_reducible apply b_repr) | (with_reducible apply b_ii) | (with_reducible apply b_ib) | (with_reducible apply b_abs) | (with_reducible apply x_t) | (with_reducible apply x_l) | (with_reducible apply x_d) | (with_reducible apply m_app) | (with_reducible apply m_ext) | (with_reducible apply c_eqD) | (with_reducible apply c_neD) | (with_reducible apply c_in) | (with_reducible apply c_nin) | (with_reducible apply c_isN) | (with_reducible apply c_notN) | (with_reducible apply nn_non) | (with_reducible apply nn_t) | (with_reducible apply nn_l) | (with_reducible apply nn_s) | (with_reducible apply nn_i) | (with_reducible apply nn_b) | (with_reducible apply nn_c) | (with_reducible apply nn_x) | (with_reducible apply en_l) | (with_reducible apply en_t) | (with_reducible apply en_s) | with_reducible exact Has.lk | with_reducible exact Con.gl | with_reducible exact Exn.ex | with_reducible exact Hrs.hr | (with_reducible apply ite_t; focus (first | with_reducible rfl | with_reducible assumption | (refine decide_eq_true ?_; with_reducible assumption) | (refine decide_eq_false ?_; with_reducible assumption) | (simp; done) | (simp [*]; done) | (simp; omega))) | (with_reducible apply ite_f; focus (first | with_reducible rfl | with_reducible assumption | (refine decide_eq_true ?_; with_reducible assumption) | (refine decide_eq_false ?_; with_reducible assumption) | (simp; done) | (simp [*]; done) | (simp; omega))) | with_reducible exact at0 | with_reducible exact at1 | with_reducible exact at2 | (show List.contains _ _ = _; exact rfl) | (show _ < List.length _; exact Nat.le_of_ble_eq_true rfl) | (show E.isNone _ = false; exact rfl) | (show D.isTy _ _ = some _; exact rfl) | (show _ ≤ line; exact Nat.le_of_ble_eq_true rfl) | focus (show List.length _ ≤ line; first | assumption | (simp [line]; done) | (simp [line]; omega)) | focus (show List.length _ < line; first | assumption | (simp [line]; done) | (simp [line]; omega)) | focus (show _ ≤ line; first | assumption | (simp [line]; done) | (simp [line]; omega)) | (show D.lst _ = D.lst _ ∨ _; exact .inl rfl) | (show _ ∨ D.tup _ = D.tup _; exact .inr rfl) | (show List.contains (Prog.excs _) _ = true; exact rfl) | (show _ ≠ _; decide) | (show slot _ _ = _; exact rfl) | (show Res.ok _ _ = _; exact rfl))
/-! ### is it judged right -/
theorem judged_d (n : Nat) {l : List Nat} (hl : l.length ≤ 77) (ha : Asc l) : Ret P (n + 28) "_law_is_judged" [.d (.str (tx l))] (.d (.bl true)) := by
  obtain ⟨o1, h1⟩ := law_read_d 25 n (l := l) (by omega) (by omega) ha
  have same := read_same (k := 25) (l := l) (by omega)
  change callF P (n + 27) _ _ = _ at h1
  have bad : rdIn l = none → evE P (callF P (n + 27)) [0] (.heard "_law_heard" (.call "reading_of" (.cons (.var 0) .nil))) [some (.d (.str (tx l))), some (.d .non), none, none] = .ok (.val (.d (.tup [.exc "BadText" (.str (tx l)), .non]))) [some (.d (.str (tx l))), some (.d .non), none, none] := fun hr => by
    obtain ⟨o2, h2⟩ := reading_of_x (P := P) (n := n + 16) (L := l) (by omega) hr
    exact heard_x rfl (Has.lk (f := "reading_of") (fn := Rd.f_reading_of)) Hrs.hr rfl rfl h2
  refine ret_x Has.lk rfl ?_
  show ∃ v e, evSs P (callF P (n + 27)) [0] b__law_is_judged [some (.d (.str (tx l))), none, none, none] = .rt v e ∧ v = _
  unfold b__law_is_judged
  cases hr : lwRead 25 l with
  | none =>
    rw [hr] at same h1
    have hh := bad same
    generalize tx l = T at *
    change callF P (n + 27) _ _ = .ok (.d .non) _ at h1
    clear same bad
    apply Exists.intro; apply Exists.intro; apply And.intro
    repeat infer_instance
    simp
  | some t =>
    obtain ⟨el, nm⟩ := lwRead_some 25 hr
    rw [hr] at same h1
    change callF P (n + 27) _ _ = .ok (.d t.D) _ at h1
    have hsl := sp_len t nm
    have htl : t.ends.length ≤ 77 := by
      have : ∀ u : Tr, u.ends.length ≤ u.sp.length + 1 := fun u => by
        induction u with
        | leaf s => simp [Tr.ends]
        | node q a b ia ib => simp only [Tr.ends, Tr.sp, List.length_append, List.length_cons, List.length_nil]; omega
      have h2 := this t
      rw [← el] at h2
      have : ∀ u : Tr, u.named → u.ends.length ≤ u.sp.length := fun u => by
        induction u with
        | leaf s => intro h; have := (name_len (named_leaf h)).1; simp [Tr.ends, Tr.sp] at this ⊢; omega
        | node q a b ia ib => intro h; have h1 := ia (named_node.mp h).1; have h2 := ib (named_node.mp h).2; simp only [Tr.ends, Tr.sp, List.length_append, List.length_cons, List.length_nil]; omega
      have h3 := this t nm
      rw [← el] at h3
      omega
    have hdep : t.depth < n + 27 := by
      have : ∀ u : Tr, 3 * u.depth ≤ u.sp.length := fun u => by
        induction u with
        | leaf s => simp [Tr.depth]
        | node q a b ia ib => simp only [Tr.depth, Tr.sp, List.length_append, List.length_cons, List.length_nil]; omega
      have h4 := this t
      rw [← el] at h4
      omega
    obtain ⟨o2, h2⟩ := law_ends_t (P := P) t (n + 27) hdep (by omega)
    have nn := isNon_D t
    simp only at same
    by_cases h6 : t.ends.length ≤ 6
    · rw [if_pos h6] at same
      obtain ⟨o3, h3⟩ := reading_of_t (P := P) (n := n + 16) (L := l) (by omega) same
      have hh : evE P (callF P (n + 27)) [0] (.heard "_law_heard" (.call "reading_of" (.cons (.var 0) .nil))) [some (.d (.str (tx l))), some (.d t.D), none, none] = .ok (.val (.d (.tup [.non, t.D]))) [some (.d (.str (tx l))), some (.d t.D), none, none] :=
        heard_ok rfl (Has.lk (f := "reading_of") (fn := Rd.f_reading_of)) Hrs.hr rfl h3 rfl
      obtain ⟨z, hz⟩ := D_repr nm (by omega)
      have h6' : ¬ (6 : Int) < ((t.ends.map D.str).length : Int) := by rw [List.length_map]; omega
      clear same bad el hsl htl hdep hr h6 h3
      generalize tx l = T at *
      apply Exists.intro; apply Exists.intro; apply And.intro
      repeat infer_instance
      simp
    · rw [if_neg h6] at same
      have hh := bad same
      have h6' : (6 : Int) < ((t.ends.map D.str).length : Int) := by rw [List.length_map]; omega
      clear same bad el hsl htl hdep hr h6
      generalize tx l = T at *
      apply Exists.intro; apply Exists.intro; apply And.intro
      repeat infer_instance
      simp
end K02

set_option maxRecDepth 100000
set_option maxHeartbeats 4000000
namespace K02
open PyEv PySem
/-! ### spoilt texts -/
theorem kp_of : Lw.f__law_of.keep = [0, 1] := rfl
def AscS (s : Str) : Prop := Asc s.cps.toList
theorem cutS_toList (s : Str) (lo hi : Option Int) : (L2.cutS s lo hi).cps.toList = (s.cps.toList.drop (HT.sIx s.length 0 lo)).take (HT.sIx s.length s.length hi - HT.sIx s.length 0 lo) := rfl
theorem cut_len (s : Str) (lo hi : Option Int) : (L2.cutS s lo hi).length = min (HT.sIx s.length s.length hi - HT.sIx s.length 0 lo) (s.length - HT.sIx s.length 0 lo) := by
  rw [str_len, cutS_toList, List.length_take, List.length_drop, ← str_len]
theorem asc_cut {s : Str} (h : AscS s) (lo hi : Option Int) : AscS (L2.cutS s lo hi) := fun c hc => by
  rw [cutS_toList] at hc
  exact h c (List.mem_of_mem_drop (List.mem_of_mem_take hc))
theorem app_list (a b : Str) : (a ++ b).cps.toList = a.cps.toList ++ b.cps.toList := by
  show (a.cps ++ b.cps).toList = _
  simp
theorem asc_app {a b : Str} (h1 : AscS a) (h2 : AscS b) : AscS (a ++ b) := fun c hc => by
  rw [app_list] at hc
  exact (List.mem_append.mp hc).elim (h1 c) (h2 c)
theorem app_len (a b : Str) : (a ++ b).length = a.length + b.length := by rw [str_len, app_list, List.length_append, ← str_len, ← str_len]
theorem rev_list (a : Str) : (revS a).cps.toList = a.cps.toList.reverse := rfl
theorem asc_rev {a : Str} (h : AscS a) : AscS (revS a) := fun c hc => by
  rw [rev_list] at hc
  exact h c (by simpa using hc)
theorem rev_len (a : Str) : (revS a).length = a.length := by rw [str_len, rev_list, List.length_reverse, ← str_len]
abbrev spoilCs : List Nat := [40, 41, 91, 93, 32, 97, 65, 122, 49, 47, 115]
theorem spoil_tx : ("()[] aAz1/s" : Str) = tx spoilCs := rfl
theorem spoilt_l {r : Nat} {w : PyEv.W} {s : Str} (n : Nat) (h : PotR (r + 3) w) (hl : s.length ≤ 1000) (ha : AscS s) :
    ∃ (u : Str) (w' : PyEv.W) (o : PyEv.Env), callF P (n + 3) "_law_spoilt" [w, .d (.str s)] = .ok (.d (.str u)) (some w' :: o) ∧ PotR r w' ∧ u.length ≤ s.length + 1 ∧ AscS u := by
  obtain ⟨at_, w1, o1, e1, hs1, hw1, a0, a1⟩ := take_n (P := P) (r := r + 2) (n + 1) h (u := (s.length : Int) + 1) (by omega) (by omega)
  obtain ⟨c, w2, o2, e2, hs2, hw2, hc⟩ := of_s (P := P) (r := r + 1) (cs := spoilCs) n hw1 (by decide) (by decide)
  obtain ⟨way, w3, o3, e3, hs3, hw3, b0, b1⟩ := take_n (P := P) (r := r) (n + 1) hw2 (u := 5) (by decide) (by decide)
  rw [← spoil_tx] at e2
  have hz : AscS (tx [c]) := fun d hd => by
    have : d = c := by simpa using hd
    subst this
    have h : ∀ x ∈ spoilCs, x < 128 := by decide
    exact h d hc
  obtain ⟨k, rfl⟩ : ∃ k : Nat, at_ = (k : Int) := ⟨at_.toNat, by omega⟩
  have hk : k ≤ s.length := by omega
  have f1 := slc_d (s := s) (lo := none) (hi := some (k : Int)) (by omega)
  have f2 := slc_d (s := s) (lo := some (k : Int)) (hi := none) (by omega)
  have f3 := slc_d (s := s) (lo := some ((k : Int) + 1)) (hi := none) (by omega)
  have f4 := slc_d (s := s) (lo := some (k : Int)) (hi := some ((k : Int) + 1)) (by omega)
  have f5 := slc_d (s := s) (lo := some (k : Int)) (hi := some ((k : Int) + 2)) (by omega)
  have f6 := slc_d (s := s) (lo := some ((k : Int) + 2)) (hi := none) (by omega)
  have l1 := cut_len s none (some (k : Int))
  have l2 := cut_len s (some (k : Int)) none
  have l3 := cut_len s (some ((k : Int) + 1)) none
  have l4 := cut_len s (some (k : Int)) (some ((k : Int) + 1))
  have l5 := cut_len s (some (k : Int)) (some ((k : Int) + 2))
  have l6 := cut_len s (some ((k : Int) + 2)) none
  have s0 : ∀ d, HT.sIx s.length d (some (k : Int)) = min k s.length := fun d => six_nat rfl
  have s1 : ∀ d, HT.sIx s.length d (some ((k : Int) + 1)) = min (k + 1) s.length := fun d => six_nat (k := k + 1) (by omega)
  have s2 : ∀ d, HT.sIx s.length d (some ((k : Int) + 2)) = min (k + 2) s.length := fun d => six_nat (k := k + 2) (by omega)
  have sn : ∀ d, HT.sIx s.length d none = d := fun d => rfl
  rw [s0, sn] at l1 l2
  rw [s1, sn] at l3
  rw [s0, s1] at l4
  rw [s0, s2] at l5
  rw [s2, sn] at l6
  have g1 := asc_cut ha none (some (k : Int))
  have g2 := asc_cut ha (some (k : Int)) none
  have g3 := asc_cut ha (some ((k : Int) + 1)) none
  have g4 := asc_cut ha (some (k : Int)) (some ((k : Int) + 1))
  have g5 := asc_cut ha (some (k : Int)) (some ((k : Int) + 2))
  have g6 := asc_cut ha (some ((k : Int) + 2)) none
  have hs : s.length ≤ line := by unfold line; omega
  have hzl : (tx [c]).length = 1 := by simp
  clear s0 s1 s2 sn hc
  generalize L2.cutS s none (some (k : Int)) = t1 at *
  generalize L2.cutS s (some (k : Int)) none = t2 at *
  generalize L2.cutS s (some ((k : Int) + 1)) none = t3 at *
  generalize L2.cutS s (some (k : Int)) (some ((k : Int) + 1)) = t4 at *
  generalize L2.cutS s (some (k : Int)) (some ((k : Int) + 2)) = t5 at *
  generalize L2.cutS s (some ((k : Int) + 2)) none = t6 at *
  generalize tx [c] = z at *
  have r5 : revF (.str t5) = some (.str (revS t5)) := rv_s (by unfold line; omega)
  have l7 := rev_len t5
  have g7 := asc_rev g5
  generalize revS t5 = t7 at *
  have m1 : t1.length = k := by clear l2 l3 l4 l5 l6 l7; omega
  have m2 : t2.length + k = s.length := by clear l1 l3 l4 l5 l6 l7 m1; omega
  have m3 : t3.length + k ≤ s.length := by clear l1 l2 l4 l5 l6 l7 m1 m2; omega
  have m4 : t4.length ≤ 1 := by clear l1 l2 l3 l5 l6 l7 m1 m2 m3; omega
  have m5 : t7.length + t6.length + k ≤ s.length := by clear l1 l2 l3 l4 m1 m2 m3 m4; omega
  clear l1 l2 l3 l4 l5 l6 l7
  have add : ∀ a b : Str, a.length ≤ 10000 → b.length ≤ 10000 → binF .add (.str a) (.str b) = some (.d (.str (a ++ b))) := fun a b h1 h2 => o_adds (by unfold line; omega)
  obtain ⟨pa, pb, pc, rfl, _⟩ := h
  obtain ⟨pa1, pb1, pc1, rfl, _⟩ := hw1
  obtain ⟨pa2, pb2, pc2, rfl, _⟩ := hw2
  have hw3' := hw3
  obtain ⟨pa3, pb3, pc3, rfl, _⟩ := hw3
  have fin : ∀ u : Str, (∃ e, evSs P (callF P (n + 2)) [0, 1] b__law_spoilt [some (.lst [.int pa, .int pb, .int pc]), some (.d (.str s)), none, none, none] = .rt (.d (.str u)) (some (.lst [.int pa3, .int pb3, .int pc3]) :: e)) → u.length ≤ s.length + 1 → AscS u →
      ∃ (u : Str) (w' : PyEv.W) (o : PyEv.Env), callF P (n + 3) "_law_spoilt" [.lst [.int pa, .int pb, .int pc], .d (.str s)] = .ok (.d (.str u)) (some w' :: o) ∧ PotR r w' ∧ u.length ≤ s.length + 1 ∧ AscS u := fun u ⟨e, h⟩ hl ha => ⟨u, _, e, callA_of Has.lk rfl h, hw3', hl, ha⟩
  have hw5 : way = 0 ∨ way = 1 ∨ way = 2 ∨ way = 3 ∨ way = 4 := by omega
  rcases hw5 with rfl | rfl | rfl | rfl | rfl
  · have y1 := add t1 z (by omega) (by omega)
    have y2 := add (t1 ++ z) t2 (by rw [app_len]; omega) (by omega)
    refine fin (t1 ++ z ++ t2) ?_ (by rw [app_len, app_len]; omega) (asc_app (asc_app g1 hz) g2)
    unfold b__law_spoilt
    clear m1 m2 m3 m4 m5 hzl add fin
    simp only [evSs, evS, evE, evIts, evAs, evIt, evJs, Res.bind, Res.fl, Res.of, Fl.then, use, useB, item, take, slot_z, slot_s, nxO, stor, assignTg, W.frz, callA, bindA, bkn, bkc, useAll, C.d, E.isNone, partB, Option.bind, Option.map, Has.lk, Con.gl, Exn.ex, List.length_cons, List.length_nil, List.set_cons_zero, List.set_cons_succ, List.contains_cons, List.contains_nil, beq_iff_eq, Nat.reduceAdd, Nat.reduceLeDiff, Nat.reduceEqDiff, Nat.reduceBEq, Nat.reduceBNe, Int.reduceNeg, if_true, if_false, or_self, or_false, false_or, or_true, true_or, and_self, and_true, true_and, Bool.or_false, Bool.or_true, Bool.false_or, Bool.true_or, Bool.and_true, Bool.true_and, Bool.and_false, Bool.false_and, Bool.false_eq_true, Bool.not_true, Bool.not_false, decide_eq_true_eq, decide_true, decide_false, not_true_eq_false, not_false_eq_true, reduceIte, reduceCtorEq, Bool.not_eq_true', decide_eq_false_iff_not, List.cons_append, List.nil_append, List.append_nil, Nat.zero_le, Int.reduceEq, Int.reduceLT, Int.reduceLE, eq_self, cast0, cast1, cast2, cast3, cast4, cast5, cast6, cast7, cast8, cast9, en_l, en_t, en_s, if_t, if_l, lit_line, l_str, m_app, m_ext, o_adds, o_addl, o_addt, rv_s, binAdd, binSub, c_lt, c_le, c_gt, c_ge, isN_eq, notN_eq, nin_eq, in_eq, eq_eq2, ne_eq2, eqF_s, eqF_i, xdd, xtt, xll, at0, at1, at2, nn_non, nn_t, nn_l, nn_s, nn_i, nn_b, nn_c, nn_x, l_tup, l_lst, b_tt, b_tl, b_lt, b_ll, b_ii, b_repr2, b_all2, b_any2, rv_t, ty_1, ty_2, ty_3, ty_4, ty_5, ty_6, ty_7, ty_8, ty_9, ty_10, ty_11, ty_12, ty_13, ty_14, ty_15, ty_16, ty_17, ty_18, ty_19, ty_20, ty_21, ty_22, ty_23, ty_24, ty_25, ty_26, ty_27, ty_28, kp_of, *]
    exact ⟨_, rfl⟩
  · have y2 := add t1 t3 (by omega) (by omega)
    refine fin (t1 ++ t3) ?_ (by rw [app_len]; omega) (asc_app g1 g3)
    unfold b__law_spoilt
    clear m1 m2 m3 m4 m5 hzl add fin
    simp only [evSs, evS, evE, evIts, evAs, evIt, evJs, Res.bind, Res.fl, Res.of, Fl.then, use, useB, item, take, slot_z, slot_s, nxO, stor, assignTg, W.frz, callA, bindA, bkn, bkc, useAll, C.d, E.isNone, partB, Option.bind, Option.map, Has.lk, Con.gl, Exn.ex, List.length_cons, List.length_nil, List.set_cons_zero, List.set_cons_succ, List.contains_cons, List.contains_nil, beq_iff_eq, Nat.reduceAdd, Nat.reduceLeDiff, Nat.reduceEqDiff, Nat.reduceBEq, Nat.reduceBNe, Int.reduceNeg, if_true, if_false, or_self, or_false, false_or, or_true, true_or, and_self, and_true, true_and, Bool.or_false, Bool.or_true, Bool.false_or, Bool.true_or, Bool.and_true, Bool.true_and, Bool.and_false, Bool.false_and, Bool.false_eq_true, Bool.not_true, Bool.not_false, decide_eq_true_eq, decide_true, decide_false, not_true_eq_false, not_false_eq_true, reduceIte, reduceCtorEq, Bool.not_eq_true', decide_eq_false_iff_not, List.cons_append, List.nil_append, List.append_nil, Nat.zero_le, Int.reduceEq, Int.reduceLT, Int.reduceLE, eq_self, cast0, cast1, cast2, cast3, cast4, cast5, cast6, cast7, cast8, cast9, en_l, en_t, en_s, if_t, if_l, lit_line, l_str, m_app, m_ext, o_adds, o_addl, o_addt, rv_s, binAdd, binSub, c_lt, c_le, c_gt, c_ge, isN_eq, notN_eq, nin_eq, in_eq, eq_eq2, ne_eq2, eqF_s, eqF_i, xdd, xtt, xll, at0, at1, at2, nn_non, nn_t, nn_l, nn_s, nn_i, nn_b, nn_c, nn_x, l_tup, l_lst, b_tt, b_tl, b_lt, b_ll, b_ii, b_repr2, b_all2, b_any2, rv_t, ty_1, ty_2, ty_3, ty_4, ty_5, ty_6, ty_7, ty_8, ty_9, ty_10, ty_11, ty_12, ty_13, ty_14, ty_15, ty_16, ty_17, ty_18, ty_19, ty_20, ty_21, ty_22, ty_23, ty_24, ty_25, ty_26, ty_27, ty_28, kp_of, *]
    exact ⟨_, rfl⟩
  · have y1 := add t1 z (by omega) (by omega)
    have y2 := add (t1 ++ z) t3 (by rw [app_len]; omega) (by omega)
    refine fin (t1 ++ z ++ t3) ?_ (by rw [app_len, app_len]; omega) (asc_app (asc_app g1 hz) g3)
    unfold b__law_spoilt
    clear m1 m2 m3 m4 m5 hzl add fin
    simp only [evSs, evS, evE, evIts, evAs, evIt, evJs, Res.bind, Res.fl, Res.of, Fl.then, use, useB, item, take, slot_z, slot_s, nxO, stor, assignTg, W.frz, callA, bindA, bkn, bkc, useAll, C.d, E.isNone, partB, Option.bind, Option.map, Has.lk, Con.gl, Exn.ex, List.length_cons, List.length_nil, List.set_cons_zero, List.set_cons_succ, List.contains_cons, List.contains_nil, beq_iff_eq, Nat.reduceAdd, Nat.reduceLeDiff, Nat.reduceEqDiff, Nat.reduceBEq, Nat.reduceBNe, Int.reduceNeg, if_true, if_false, or_self, or_false, false_or, or_true, true_or, and_self, and_true, true_and, Bool.or_false, Bool.or_true, Bool.false_or, Bool.true_or, Bool.and_true, Bool.true_and, Bool.and_false, Bool.false_and, Bool.false_eq_true, Bool.not_true, Bool.not_false, decide_eq_true_eq, decide_true, decide_false, not_true_eq_false, not_false_eq_true, reduceIte, reduceCtorEq, Bool.not_eq_true', decide_eq_false_iff_not, List.cons_append, List.nil_append, List.append_nil, Nat.zero_le, Int.reduceEq, Int.reduceLT, Int.reduceLE, eq_self, cast0, cast1, cast2, cast3, cast4, cast5, cast6, cast7, cast8, cast9, en_l, en_t, en_s, if_t, if_l, lit_line, l_str, m_app, m_ext, o_adds, o_addl, o_addt, rv_s, binAdd, binSub, c_lt, c_le, c_gt, c_ge, isN_eq, notN_eq, nin_eq, in_eq, eq_eq2, ne_eq2, eqF_s, eqF_i, xdd, xtt, xll, at0, at1, at2, nn_non, nn_t, nn_l, nn_s, nn_i, nn_b, nn_c, nn_x, l_tup, l_lst, b_tt, b_tl, b_lt, b_ll, b_ii, b_repr2, b_all2, b_any2, rv_t, ty_1, ty_2, ty_3, ty_4, ty_5, ty_6, ty_7, ty_8, ty_9, ty_10, ty_11, ty_12, ty_13, ty_14, ty_15, ty_16, ty_17, ty_18, ty_19, ty_20, ty_21, ty_22, ty_23, ty_24, ty_25, ty_26, ty_27, ty_28, kp_of, *]
    exact ⟨_, rfl⟩
  · have y1 := add t1 t4 (by omega) (by omega)
    have y2 := add (t1 ++ t4) t2 (by rw [app_len]; omega) (by omega)
    refine fin (t1 ++ t4 ++ t2) ?_ (by rw [app_len, app_len]; omega) (asc_app (asc_app g1 g4) g2)
    unfold b__law_spoilt
    clear m1 m2 m3 m4 m5 hzl add fin
    simp only [evSs, evS, evE, evIts, evAs, evIt, evJs, Res.bind, Res.fl, Res.of, Fl.then, use, useB, item, take, slot_z, slot_s, nxO, stor, assignTg, W.frz, callA, bindA, bkn, bkc, useAll, C.d, E.isNone, partB, Option.bind, Option.map, Has.lk, Con.gl, Exn.ex, List.length_cons, List.length_nil, List.set_cons_zero, List.set_cons_succ, List.contains_cons, List.contains_nil, beq_iff_eq, Nat.reduceAdd, Nat.reduceLeDiff, Nat.reduceEqDiff, Nat.reduceBEq, Nat.reduceBNe, Int.reduceNeg, if_true, if_false, or_self, or_false, false_or, or_true, true_or, and_self, and_true, true_and, Bool.or_false, Bool.or_true, Bool.false_or, Bool.true_or, Bool.and_true, Bool.true_and, Bool.and_false, Bool.false_and, Bool.false_eq_true, Bool.not_true, Bool.not_false, decide_eq_true_eq, decide_true, decide_false, not_true_eq_false, not_false_eq_true, reduceIte, reduceCtorEq, Bool.not_eq_true', decide_eq_false_iff_not, List.cons_append, List.nil_append, List.append_nil, Nat.zero_le, Int.reduceEq, Int.reduceLT, Int.reduceLE, eq_self, cast0, cast1, cast2, cast3, cast4, cast5, cast6, cast7, cast8, cast9, en_l, en_t, en_s, if_t, if_l, lit_line, l_str, m_app, m_ext, o_adds, o_addl, o_addt, rv_s, binAdd, binSub, c_lt, c_le, c_gt, c_ge, isN_eq, notN_eq, nin_eq, in_eq, eq_eq2, ne_eq2, eqF_s, eqF_i, xdd, xtt, xll, at0, at1, at2, nn_non, nn_t, nn_l, nn_s, nn_i, nn_b, nn_c, nn_x, l_tup, l_lst, b_tt, b_tl, b_lt, b_ll, b_ii, b_repr2, b_all2, b_any2, rv_t, ty_1, ty_2, ty_3, ty_4, ty_5, ty_6, ty_7, ty_8, ty_9, ty_10, ty_11, ty_12, ty_13, ty_14, ty_15, ty_16, ty_17, ty_18, ty_19, ty_20, ty_21, ty_22, ty_23, ty_24, ty_25, ty_26, ty_27, ty_28, kp_of, *]
    exact ⟨_, rfl⟩
  · have y1 := add t1 t7 (by omega) (by omega)
    have y2 := add (t1 ++ t7) t6 (by rw [app_len]; omega) (by omega)
    refine fin (t1 ++ t7 ++ t6) ?_ (by rw [app_len, app_len]; omega) (asc_app (asc_app g1 g7) g6)
    unfold b__law_spoilt
    clear m1 m2 m3 m4 m5 hzl add fin
    simp only [evSs, evS, evE, evIts, evAs, evIt, evJs, Res.bind, Res.fl, Res.of, Fl.then, use, useB, item, take, slot_z, slot_s, nxO, stor, assignTg, W.frz, callA, bindA, bkn, bkc, useAll, C.d, E.isNone, partB, Option.bind, Option.map, Has.lk, Con.gl, Exn.ex, List.length_cons, List.length_nil, List.set_cons_zero, List.set_cons_succ, List.contains_cons, List.contains_nil, beq_iff_eq, Nat.reduceAdd, Nat.reduceLeDiff, Nat.reduceEqDiff, Nat.reduceBEq, Nat.reduceBNe, Int.reduceNeg, if_true, if_false, or_self, or_false, false_or, or_true, true_or, and_self, and_true, true_and, Bool.or_false, Bool.or_true, Bool.false_or, Bool.true_or, Bool.and_true, Bool.true_and, Bool.and_false, Bool.false_and, Bool.false_eq_true, Bool.not_true, Bool.not_false, decide_eq_true_eq, decide_true, decide_false, not_true_eq_false, not_false_eq_true, reduceIte, reduceCtorEq, Bool.not_eq_true', decide_eq_false_iff_not, List.cons_append, List.nil_append, List.append_nil, Nat.zero_le, Int.reduceEq, Int.reduceLT, Int.reduceLE, eq_self, cast0, cast1, cast2, cast3, cast4, cast5, cast6, cast7, cast8, cast9, en_l, en_t, en_s, if_t, if_l, lit_line, l_str, m_app, m_ext, o_adds, o_addl, o_addt, rv_s, binAdd, binSub, c_lt, c_le, c_gt, c_ge, isN_eq, notN_eq, nin_eq, in_eq, eq_eq2, ne_eq2, eqF_s, eqF_i, xdd, xtt, xll, at0, at1, at2, nn_non, nn_t, nn_l, nn_s, nn_i, nn_b, nn_c, nn_x, l_tup, l_lst, b_tt, b_tl, b_lt, b_ll, b_ii, b_repr2, b_all2, b_any2, rv_t, ty_1, ty_2, ty_3, ty_4, ty_5, ty_6, ty_7, ty_8, ty_9, ty_10, ty_11, ty_12, ty_13, ty_14, ty_15, ty_16, ty_17, ty_18, ty_19, ty_20, ty_21, ty_22, ty_23, ty_24, ty_25, ty_26, ty_27, ty_28, kp_of, *]
    exact ⟨_, rfl⟩
end K02

set_option maxRecDepth 100000
set_option maxHeartbeats 4000000
namespace K02
open PyEv PySem
local macro_rules | `(tactic| infer_instance) => `(tactic| first | with_reducible assumption | with_reducible exact sl0 | (with_reducible apply slS) | with_reducible exact set0 | (with_reducible apply setS) | (with_reducible apply gs_raise) | (with_reducible apply q_ret) | (with_reducible apply q_if) | (with_reducible apply q_an) | (with_reducible apply q_ac) | (with_reducible apply q_nil) | (with_reducible apply q_c) | (with_reducible apply gs_set) | (with_reducible apply gs_par) | (with_reducible apply gs_unp) | (with_reducible apply gs_six) | (with_reducible apply gs_expr) | (with_reducible apply gs_pass) | (with_reducible apply sk_v) | (with_reducible apply sk_w) | (with_reducible apply pk_ww) | (with_reducible apply pk_v) | (with_reducible apply pk_wv) | (with_reducible apply xv) | (with_reducible apply xk_n) | (with_reducible apply xk_b) | (with_reducible apply xk_i) | (with_reducible apply xk_s) | (with_reducible apply xglob) | (with_reducible apply xtup) | (with_reducible apply xlst) | (with_reducible apply xdct) | (with_reducible apply xbin) | (with_reducible apply xneg) | (with_reducible apply xcmp) | (with_reducible apply xch) | (with_reducible apply xchk) | (with_reducible apply xandE) | (with_reducible apply xorE) | (with_reducible apply xnotE) | (with_reducible apply xif) | (with_reducible apply xcall) | (with_reducible apply xbi) | (with_reducible apply xmm) | (with_reducible apply xisi) | (with_reducible apply xix) | (with_reducible apply xslc) | (with_reducible apply po_n) | (with_reducible apply po_s) | (with_reducible apply xrev) | (with_reducible apply rv_t) | (with_reducible apply rv_s) | (with_reducible apply xfstr) | (with_reducible apply js_n) | (with_reducible apply js_c) | (with_reducible apply xbm) | (with_reducible apply xmut) | (with_reducible apply xlr) | (with_reducible apply is_nil) | (with_reducible apply is_c) | (with_reducible apply is_s) | (with_reducible apply aa_nil) | (with_reducible apply aa_c) | (with_reducible apply w_seq) | (with_reducible apply if_t) | (with_reducible apply if_l) | (with_reducible apply w_r1) | (with_reducible apply w_r2) | (with_reducible apply w_zip) | (with_reducible apply w_enum) | (with_reducible apply us_d) | (with_reducible apply us_l) | (with_reducible apply us_c) | (with_reducible apply us_v) | (with_reducible apply fz_d) | (with_reducible apply fz_l) | (with_reducible apply fz_c) | (with_reducible apply it_d) | (with_reducible apply it_l) | (with_reducible apply it_c) | (with_reducible apply it_v) | (with_reducible apply iw_d) | (with_reducible apply iw_l) | (with_reducible apply iw_c) | (with_reducible apply tk_w) | (with_reducible apply tk_v) | (with_reducible apply tw_d) | (with_reducible apply tw_l) | (with_reducible apply tw_c) | (with_reducible apply as1) | (with_reducible apply as2) | (with_reducible apply as3) | (with_reducible apply st_ok) | (with_reducible apply ba_nil) | (with_reducible apply ba_v) | (with_reducible apply ba_vr) | (with_reducible apply bv_d) | (with_reducible apply bv_l) | (with_reducible apply bv_c) | (with_reducible apply bk_nil) | (with_reducible apply bk_c) | (with_reducible apply ua_nil) | (with_reducible apply ua_c) | (with_reducible apply o_adds) | (with_reducible apply o_addt) | (with_reducible apply o_addl) | (with_reducible apply binAdd) | (with_reducible apply binSub) | (with_reducible apply c_eqs) | (with_reducible apply c_eqi) | (with_reducible apply c_nes) | (with_reducible apply c_nei) | (with_reducible apply c_lt) | (with_reducible apply c_le) | (with_reducible apply c_gt) | (with_reducible apply c_ge) | (with_reducible apply c_ink) | (with_reducible apply xmk) | (with_reducible apply xfldv) | (with_reducible apply xisx) | (with_reducible apply xisv) | (with_reducible apply ix_exc) | (with_reducible apply iv_exc) | (with_reducible apply gs_raise) | (with_reducible apply gs_tryraise) | (with_reducible apply cf_ex) | (with_reducible apply l_tup) | (with_reducible apply l_lst) | (with_reducible apply l_str) | (with_reducible apply l_scr) | (with_reducible apply b_tt) | (with_reducible apply b_tl) | (with_reducible apply b_lt) | (with_reducible apply b_ll) | (with_reducible apply b_all) | (with_reducible apply b_any) | (with_reducible apply b_repr) | (with_reducible apply b_ii) | (with_reducible apply b_ib) | (with_reducible apply b_abs) | (with_reducible apply x_t) | (with_reducible apply x_l) | (with_reducible apply x_d) | (with_reducible apply m_app) | (with_reducible apply m_ext) | (with_reducible apply c_eqD) | (with_reducible apply c_neD) | (with_reducible apply c_in) | (with_reducible apply c_nin) | (with_reducible apply c_isN) | (with_reducible apply c_notN) | (with_reducible apply nn_non) | (with_reducible apply nn_t) | (with_reducible apply nn_l) | (with_reducible apply nn_s) | (with_reducible apply nn_i) | (with_reducible apply nn_b) | (with_reducible apply nn_c) | (with_reducible apply nn_x) | (with_reducible apply en_l) | (with_reducible apply en_t) | (with_reducible apply en_s) | with_reducible exact Has.lk | with_reducible exact Con.gl | with_reducible exact Exn.ex | with_reducible exact Hrs.hr | (with_reducible apply ite_t; focus (first | with_reducible rfl | with_reducible assumption | (refine decide_eq_true ?_; with_reducible assumption) | (refine decide_eq_false ?_; with_reducible assumption) | (simp; done) | (simp [*]; done) | (simp; omega))) | (with_reducible apply ite_f; focus (first | with_reducible rfl | with_reducible assumption | (refine decide_eq_true ?_; with_reducible assumption) | (refine decide_eq_false ?_; with_reducible assumption) | (simp; done) | (simp [*]; done) | (simp; omega))) | with_reducible exact at0 | with_reducible exact at1 | with_reducible exact at2 | (show List.contains _ _ = _; exact rfl) | (show _ < List.length _; exact Nat.le_of_ble_eq_true rfl) | (show E.isNone _ = false; exact rfl) | (show D.isTy _ _ = some _; exact rfl) | (show _ ≤ line; exact Nat.le_of_ble_eq_true rfl) | focus (show List.length _ ≤ line; first | assumption | (simp [line]; done) | (simp [line]; omega)) | focus (show List.length _ < line; first | assumption | (simp [line]; done) | (simp [line]; omega)) | focus (show _ ≤ line; first | assumption | (simp [line]; done) | (simp [line]; omega)) | (show D.lst _ = D.lst _ ∨ _; exact .inl rfl) | (show _ ∨ D.tup _ = D.tup _; exact .inr rfl) | (show List.contains (Prog.excs _) _ = true; exact rfl) | (show _ ≠ _; decide) | (show slot _ _ = _; exact rfl) | (show Res.ok _ _ = _; exact rfl))
/-! ### a cell -/
def TxtD (d : D) : Prop := ∃ s : Str, d = .str s ∧ s.length ≤ 77 ∧ AscS s
theorem sp_asc : ∀ t : Tr, t.named → Asc t.sp
  | .leaf s, h => fun c hc => letB_lt ((name_len (named_leaf h)).2.2 c hc)
  | .node q a b, h => fun c hc => by
    obtain ⟨h1, h2⟩ := named_node.mp h
    simp only [Tr.sp, List.mem_cons, List.mem_append, List.not_mem_nil, or_false] at hc
    rcases hc with rfl | hc | rfl | hc | rfl
    · cases q <;> decide
    · exact sp_asc a h1 c hc
    · decide
    · exact sp_asc b h2 c hc
    · cases q <;> decide
abbrev turnS : Ss := (.cons (.set 4 (.call "_law_spelled" (.cons (.call "_law_tree" (.cons (.var 0) (.cons (.var 1) (.cons (.bin .add (.k (.int 1)) (.call "_law_take" (.cons (.var 0) (.cons (.k (.int 7)) .nil)))) .nil)))) .nil))) (.cons (.expr (.mut .append 2 (.cons (.var 4) .nil))) (.cons (.expr (.mut .extend 2 (.cons lc__law_right_2 .nil))) .nil)))
theorem for3 : for__law_right_3 = .for (.one 3) (.range1 (.k (.int 4))) turnS := rfl
/-- eight spoilt texts -/
theorem lc_spoilt {n r : Nat} {w : PyEv.W} {wd l x6 x7 o5 : Option PyEv.W} {x3 : D} {s : Str} (h : PotR (r + 24) w) (hl : s.length ≤ 75) (ha : AscS s) :
    ∃ (ys : List D) (w' : PyEv.W), evE P (callF P (n + 3)) [0] lc__law_right_2 [some w, wd, l, some (.d x3), some (.d (.str s)), o5, x6, x7] = .ok (.val (.lst ys)) [some w', wd, l, some (.d x3), some (.d (.str s)), none, x6, x7] ∧ PotR r w' ∧ ys.length = 8 ∧ ∀ y ∈ ys, TxtD y := by
  obtain ⟨xs, hr, hxl, _⟩ := range_len (k := 8) (by omega)
  change rangeF 0 8 = _ at hr
  have hit : evIt P (callF P (n + 3)) [0] (.range1 (.k (.int 8))) [some w, wd, l, some (.d x3), some (.d (.str s)), o5, x6, x7] = .ok xs [some w, wd, l, some (.d x3), some (.d (.str s)), o5, x6, x7] := by
    repeat infer_instance
  obtain ⟨ys, env', e, ⟨w', he, hw', hys⟩, hlen⟩ := lc_runQ (P := P) (cf := callF P (n + 3)) (keep := [0]) (elt := .call "_law_spoilt" (.cons (.var 0) (.cons (.var 4) .nil))) (i := 5) (nm := "_law_turn")
    (fun acc e => ∃ w', e = [some w', wd, l, some (.d x3), some (.d (.str s)), none, x6, x7] ∧ PotR (r + 3 * (8 - acc.length)) w' ∧ ∀ y ∈ acc, TxtD y) hit rfl (fun acc e ⟨w', he, _⟩ => by subst he; exact Nat.le_of_ble_eq_true rfl) (by rw [hxl]; decide) ⟨w, rfl, h, fun y hy => by cases hy⟩
    (fun x _ acc e hlt ⟨w', he, hw, hys⟩ => by
      subst he
      obtain ⟨u, w2, o, e2, hw2, hul, hua⟩ := spoilt_l (r := r + 3 * (8 - (acc.length + 1))) (s := s) n (hw.le (by omega)) (by omega) ha
      obtain ⟨pa, pb, pc, rfl, _⟩ := hw
      have hw2' := hw2
      obtain ⟨qa, qb, qc, rfl, _⟩ := hw2
      refine ⟨.val (.d (.str u)), [some (.lst [.int qa, .int qb, .int qc]), wd, l, some (.d x3), some (.d (.str s)), some (.d x), x6, x7], .str u, _, ?_, it_d, _, rfl, by simpa using hw2', fun y hy => ?_⟩
      · show evE P (callF P (n + 3)) [0] _ [some (.lst [.int pa, .int pb, .int pc]), wd, l, some (.d x3), some (.d (.str s)), some (.d x), x6, x7] = _
        clear hys hit
        repeat infer_instance
      · rcases List.mem_append.mp hy with hy | hy
        · exact hys y hy
        · rcases List.mem_singleton.mp hy with rfl
          exact ⟨u, rfl, by omega, hua⟩)
  exact ⟨ys, w', by rw [← he]; exact e, hw'.le (by omega), by omega, hys⟩
theorem turn_d {n r : Nat} {w : PyEv.W} {ws : List Str} {l : List D} {x6 x7 o4 o5 : Option PyEv.W} {x3 : D} (h : PotR (r + 60) w) (h1 : 1 ≤ ws.length) (h2 : ws.length ≤ 1000) (hp : ∀ s ∈ ws, nameS s = true) (hl : l.length ≤ 1000) (hx : ∀ y ∈ l, TxtD y) :
    ∃ (w' : PyEv.W) (l' : List D) (s4 : Str), evSs P (callF P (n + 9)) [0] turnS [some w, some (.d (.tup (ws.map D.str))), some (.lst l), some (.d x3), o4, o5, x6, x7] = .nx [some w', some (.d (.tup (ws.map D.str))), some (.lst l'), some (.d x3), some (.d (.str s4)), none, x6, x7] ∧ PotR r w' ∧ l'.length = l.length + 9 ∧ ∀ y ∈ l', TxtD y := by
  obtain ⟨d, w1, o1, e1, hs1, hw1, d0, d1⟩ := take_n (P := P) (r := r + 59) (n + 8) h (u := 7) (by decide) (by decide)
  obtain ⟨k, hk⟩ : ∃ k : Nat, 1 + d = (k : Int) := ⟨(1 + d).toNat, by omega⟩
  obtain ⟨t, w2, o2, e2, hs2, hw2, g2, l2⟩ := tree_l (P := P) h1 h2 k (n + 9) (r + 24) w1 (by omega) (by omega) (hw1.le (by omega))
  have nm : t.named := fun s hs => hp s (g2 s hs)
  have hdl := depth_lt t
  obtain ⟨o3, e3⟩ := law_spelled_t (P := P) t (n + 9) (by omega) nm (by omega)
  have hsl := sp_len t nm
  have hal : AscS (tx t.sp) := sp_asc t nm
  have hll : (tx t.sp).length ≤ 75 := by rw [tx_len]; omega
  generalize tx t.sp = T at *
  obtain ⟨ys, w3, e4, hw3, hyl, hys⟩ := lc_spoilt (n := n + 6) (r := r) (wd := some (.d (.tup (ws.map D.str)))) (l := some (.lst (l ++ [.str T]))) (x6 := x6) (x7 := x7) (o5 := o5) (x3 := x3) hw2 hll hal
  rw [← hk] at e2
  obtain ⟨pa, pb, pc, rfl, _⟩ := h
  obtain ⟨pa1, pb1, pc1, rfl, _⟩ := hw1
  obtain ⟨pa2, pb2, pc2, rfl, _⟩ := hw2
  refine ⟨w3, l ++ [.str T] ++ ys, T, ?_, hw3, by simp [hyl], fun y hy => ?_⟩
  · have a1 : l.length < line := by unfold line; omega
    have a2 : (l ++ [D.str T]).length + ys.length ≤ line := by simp [line]; omega
    have m1 : mutF .append (.lst l) [.str T] = some (.non, .lst (l ++ [.str T])) := m_app a1
    have m2 : mutF .extend (.lst (l ++ [.str T])) [.lst ys] = some (.non, .lst (l ++ [.str T] ++ ys)) := m_ext a2
    generalize l ++ [.str T] ++ ys = l3 at *
    generalize l ++ [.str T] = l4 at *
    generalize ws.map D.str = wd at *
    change callF P (n + 9) _ _ = _ at e1 e2 e3
    change evE P (callF P (n + 9)) _ _ _ = _ at e4
    clear hk d0 d1 hsl hdl hyl hys l2 a1 a2 hal hll nm g2
    unfold turnS
    repeat infer_instance
  · rcases List.mem_append.mp hy with hy | hy
    · rcases List.mem_append.mp hy with hy | hy
      · exact hx y hy
      · rcases List.mem_singleton.mp hy with rfl
        exact ⟨T, rfl, by omega, hal⟩
    · exact hys y hy
abbrev texts0 : List D := [.str "", .str " ", .str "(a b", .str "a b", .str "[a b)", .str "(a  b)", .str "(a b) ", .str "(a)", .str "[]", .str "A", .str "abcdefgh", .str "abcdefghi"]
abbrev texts1 : List D := [.str "(a b c)", .str "((a b)c)"]
theorem texts_ok : ∀ y ∈ texts0 ++ texts1, TxtD y := by
  have h : (texts0 ++ texts1).all (fun d => match d with | .str s => decide (s.length ≤ 77) && s.cps.toList.all (fun c => decide (c < 128)) | _ => false) = true := by decide +kernel
  intro y hy
  have := List.all_eq_true.mp h y hy
  cases y <;> first | (cases this; done) | skip
  simp only [Bool.and_eq_true, decide_eq_true_eq, List.all_eq_true] at this
  exact ⟨_, rfl, this.1, fun c hc => this.2 c hc⟩
theorem loop3 {n r : Nat} {w : PyEv.W} {ws : List Str} {x6 x7 : Option PyEv.W} (h : PotR (r + 240) w) (h1 : 1 ≤ ws.length) (h2 : ws.length ≤ 1000) (hp : ∀ s ∈ ws, nameS s = true) :
    ∃ (w' : PyEv.W) (l' : List D) (o3 o4 : Option PyEv.W), evS P (callF P (n + 9)) [0] for__law_right_3 [some w, some (.d (.tup (ws.map D.str))), some (.lst (texts0 ++ texts1)), none, none, none, x6, x7] = .nx [some w', some (.d (.tup (ws.map D.str))), some (.lst l'), o3, o4, none, x6, x7] ∧ PotR r w' ∧ l'.length ≤ 100 ∧ ∀ y ∈ l', TxtD y := by
  obtain ⟨xs, hr, hxl, _⟩ := range_len (k := 4) (by omega)
  change rangeF 0 4 = _ at hr
  obtain ⟨env', e, ⟨w', l', o3, o4, rfl, hw', hl', hy'⟩⟩ := forL_run (keep := [0]) (tg := .one 3) (body := fun env => evSs P (callF P (n + 9)) [0] turnS env)
    (fun xs env => ∃ (w' : PyEv.W) (l' : List D) (o3 o4 : Option PyEv.W), env = [some w', some (.d (.tup (ws.map D.str))), some (.lst l'), o3, o4, none, x6, x7] ∧ PotR (r + 60 * xs.length) w' ∧ l'.length + 9 * xs.length ≤ 60 ∧ ∀ y ∈ l', TxtD y)
    (fun x xs env ⟨w', l', o3, o4, he, hw, hl, hy⟩ => by
      subst he
      simp only [List.length_cons] at hw hl
      obtain ⟨w2, l2, s4, e2, hw2, hl2, hy2⟩ := turn_d (n := n) (r := r + 60 * xs.length) (w := w') (x6 := x6) (x7 := x7) (o4 := o4) (o5 := none) (x3 := x) (hw.le (by omega)) h1 h2 hp (by omega) hy
      exact ⟨[some w', some (.d (.tup (ws.map D.str))), some (.lst l'), some (.d x), o4, none, x6, x7], _, rfl, e2, w2, l2, _, _, rfl, hw2, by omega, hy2⟩) xs [some w, some (.d (.tup (ws.map D.str))), some (.lst (texts0 ++ texts1)), none, none, none, x6, x7]
    ⟨w, _, none, none, rfl, by rw [hxl]; exact h, by rw [hxl]; decide, texts_ok⟩
  refine ⟨w', l', o3, o4, ?_, hw'.le (by simp), by simp at hl'; omega, hy'⟩
  rw [for3]
  refine gs_for (P := P) ?_ e
  clear e hy'
  generalize texts0 ++ texts1 = tt at *
  repeat infer_instance
theorem lc_judged {n : Nat} {w wd x3 x4 x5 x6 x7 : Option PyEv.W} {l : List D} (hl : l.length ≤ 1000) (hx : ∀ y ∈ l, TxtD y) :
    evE P (callF P (n + 28)) [0] lc__law_right_1 [w, wd, some (.lst l), x3, x4, x5, x6, x7] = .ok (.val (.lst (l.map fun _ => .bl true))) [w, wd, some (.d (.lst l)), x3, none, x5, x6, x7] := by
  have hit : evIt P (callF P (n + 28)) [0] (.seq (.var 2)) [w, wd, some (.lst l), x3, x4, x5, x6, x7] = .ok l [w, wd, some (.d (.lst l)), x3, x4, x5, x6, x7] := by repeat infer_instance
  exact lc1 (P := P) (cf := callF P (n + 28)) (keep := [0]) (elt := .call "_law_is_judged" (.cons (.var 4) .nil)) (i := 4) (nm := "_law_text") (env0 := [w, wd, some (.d (.lst l)), x3, none, x5, x6, x7]) (g := fun _ => .bl true) hit rfl rfl (Nat.le_of_ble_eq_true rfl) (by unfold line; omega) (fun x hx2 => by
    obtain ⟨s, rfl, hs, ha⟩ := hx x hx2
    obtain ⟨o, h⟩ := judged_d n (l := s.cps.toList) (by rw [← str_len]; exact hs) ha
    have h : callF P (n + 28) "_law_is_judged" [.d (.str s)] = .ok (.d (.bl true)) o := h
    refine ⟨[w, wd, some (.d (.lst l)), x3, some (.d (.str s)), x5, x6, x7], .val (.d (.bl true)), [w, wd, some (.d (.lst l)), x3, some (.d (.str s)), x5, x6, x7], [w, wd, some (.d (.lst l)), x3, some (.d (.str s)), x5, x6, x7], rfl, ?_, it_d, rfl⟩
    clear hit hx hx2
    repeat infer_instance)
/-! ### values that are no text -/
def OddV (v : D) : Prop := D.isTy .str v = some false ∧ ∃ z, reprF v = some (.str z)
def oddVB (v : D) : Bool := (match D.isTy .str v with | some false => true | _ => false) && (match reprF v with | some (.str _) => true | _ => false)
theorem oddV_of {v : D} (h : oddVB v = true) : OddV v := by
  simp only [oddVB, Bool.and_eq_true] at h
  obtain ⟨h1, h2⟩ := h
  refine ⟨?_, ?_⟩
  · split at h1
    · assumption
    · cases h1
  · split at h2
    · rename_i z e; exact ⟨z, e⟩
    · cases h2
theorem odd_lst : ∀ x ∈ oddA ++ oddB, OddV (.lst [x]) := by
  have h : (oddA ++ oddB).all (fun x => oddVB (.lst [x])) = true := by decide +kernel
  intro x hx
  exact oddV_of (List.all_eq_true.mp h x hx)
abbrev vals0 : List D := [.non, .int 0, .bl true, .tup [.str "a"], .lst [.str "a"], .tup [.str "right", .str "a", .str "b"], .dct [] []]
theorem vals_ok : ∀ x ∈ vals0, OddV x := by
  have h : vals0.all oddVB = true := by decide +kernel
  intro x hx
  exact oddV_of (List.all_eq_true.mp h x hx)
abbrev valS : Ss := (.cons (.set 7 (.ix (.heard "_law_heard" (.call "reading_of" (.cons (.var 6) .nil))) (.k (.int 0)))) (.cons (.ife (.or (.not (.isx (.var 7) "BadText")) (.cmp .ne (.bi .repr (.fldv (.var 7))) (.bi .repr (.var 6)))) (.cons (.ret (.k (.bl false))) .nil) .nil) .nil))
theorem val_turn {n : Nat} {x0 x1 x2 x3 x4 x5 x7 : Option PyEv.W} {v : D} (hv : OddV v) : evSs P (callF P (n + 1)) [0] valS [x0, x1, x2, x3, x4, x5, some (.d v), x7] = .nx [x0, x1, x2, x3, x4, x5, some (.d v), some (.d (.exc "BadText" v))] := by
  obtain ⟨h1, z, hz⟩ := hv
  obtain ⟨o, h2⟩ := reading_of_no (P := P) (n := n) h1
  have hh : evE P (callF P (n + 1)) [0] (.heard "_law_heard" (.call "reading_of" (.cons (.var 6) .nil))) [x0, x1, x2, x3, x4, x5, some (.d v), x7] = .ok (.val (.d (.tup [.exc "BadText" v, .non]))) [x0, x1, x2, x3, x4, x5, some (.d v), x7] :=
    heard_x rfl (Has.lk (f := "reading_of") (fn := Rd.f_reading_of)) Hrs.hr rfl rfl h2
  unfold valS
  repeat infer_instance
theorem right_d {w : PyEv.W} (n : Nat) (h : PotR 900000 w) : Ret P (n + 30) "_law_right" [w] (.d (.bl true)) := by
  obtain ⟨ws, w1, o1, e1, hw1, h1, h2, hp, _⟩ := words_l (P := P) (r := 890000) (few := 1) (most := 4) (n + 26) (h.le (by omega)) (by decide) (by decide) (by decide)
  have hnm : ∀ s ∈ ws, nameS s = true := fun s hs => pool_named s (hp s hs)
  obtain ⟨w2, l, o3, o4, e2, hw2, hl, hx⟩ := loop3 (n := n + 20) (r := 880000) (w := w1) (x6 := none) (x7 := none) (hw1.le (by omega)) (by omega) (by omega) hnm
  have e3 := lc_judged (n := n + 1) (w := some w2) (wd := some (.d (.tup (ws.map D.str)))) (x3 := o3) (x4 := o4) (x5 := none) (x6 := none) (x7 := none) (by omega) hx
  obtain ⟨xo, w3, oo, e4, hw3, hxo⟩ := odd_l (P := P) (r := 870000) (n + 26) (hw2.le (by omega))
  have hv : ∀ v ∈ vals0 ++ [.lst [xo]], OddV v := fun v hv => by
    rcases List.mem_append.mp hv with hv | hv
    · exact vals_ok v hv
    · rcases List.mem_singleton.mp hv with rfl; exact odd_lst xo hxo
  obtain ⟨env', e5, ⟨p6, p7, rfl⟩, _⟩ := forL_run (keep := [0]) (tg := .one 6) (body := fun env => evSs P (callF P (n + 29)) [0] valS env)
    (fun xs env => (∃ p6 p7 : Option PyEv.W, env = [some w3, some (.d (.tup (ws.map D.str))), some (.d (.lst l)), o3, none, none, p6, p7]) ∧ ∀ v ∈ xs, OddV v)
    (fun x xs env ⟨⟨p6, p7, he⟩, hq⟩ => by
      subst he
      exact ⟨[some w3, some (.d (.tup (ws.map D.str))), some (.d (.lst l)), o3, none, none, some (.d x), p7], _, rfl, val_turn (n := n + 28) (hq x List.mem_cons_self), ⟨_, _, rfl⟩, fun v hv => hq v (List.mem_cons_of_mem _ hv)⟩)
    (vals0 ++ [.lst [xo]]) [some w3, some (.d (.tup (ws.map D.str))), some (.d (.lst l)), o3, none, none, none, none] ⟨⟨none, none, rfl⟩, hv⟩
  have hall : allBl (l.map fun _ => D.bl true) = some (l.map fun _ => true) := all_trues l
  obtain ⟨pa, pb, pc, rfl, _⟩ := h
  obtain ⟨pa1, pb1, pc1, rfl, _⟩ := hw1
  obtain ⟨pa2, pb2, pc2, rfl, _⟩ := hw2
  obtain ⟨pa3, pb3, pc3, rfl, _⟩ := hw3
  have loop : evS P (callF P (n + 29)) [0] for__law_right_0 [some (.lst [.int pa2, .int pb2, .int pc2]), some (.d (.tup (ws.map D.str))), some (.d (.lst l)), o3, none, none, none, none] = .nx [some (.lst [.int pa3, .int pb3, .int pc3]), some (.d (.tup (ws.map D.str))), some (.d (.lst l)), o3, none, none, p6, p7] := by
    refine gs_for (P := P) (xs := vals0 ++ [.lst [xo]]) ?_ e5
    clear e5 e2 e3 hall hv hx
    generalize ws.map D.str = wd at *
    change callF P (n + 29) _ _ = _ at e4
    repeat infer_instance
    exact rfl
  refine ret_x Has.lk rfl ?_
  show ∃ v e, evSs P (callF P (n + 29)) [0] b__law_right [some (.lst [.int pa, .int pb, .int pc]), none, none, none, none, none, none, none] = .rt v e ∧ v = _
  have m1 : mutF .extend (.lst texts0) [.lst texts1] = some (.non, .lst (texts0 ++ texts1)) := m_ext (by decide)
  unfold texts0 texts1 at m1
  unfold texts0 texts1 at e2
  clear e5 e4 hv hx hp hnm h1 h2
  generalize ws.map D.str = wd at *
  have hid : (l.map fun _ => true).all id = true := by simp
  generalize (l.map fun _ => D.bl true) = ll at *
  generalize (l.map fun _ => true) = lb at *
  change callF P (n + 29) _ _ = _ at e1
  change evS P (callF P (n + 29)) _ _ _ = _ at e2
  change evE P (callF P (n + 29)) _ _ _ = _ at e3
  unfold b__law_right
  apply Exists.intro; apply Exists.intro; apply And.intro
  repeat infer_instance
  rfl
theorem main : ∀ ns : List Int, ns.length ≤ 63 → ∃ outs, PyEv.callF K02.P 64 "law" [.d (.scr ns)] = .ok (.d (.bl true)) outs :=
  pot_main (P := P) (k := 62) (p1 := 177) (p2 := 61) (p3 := 73637) (p4 := 8129) (p5 := 153) lk__law_pot (by decide) (by decide) (by decide) (by decide) (by decide) lk__law_cells 6 (by decide) (by decide) lk_law lk__law_right rfl fun w h => right_d 33 h
end K02

set_option maxRecDepth 100000
set_option maxHeartbeats 4000000
namespace K02
open PyEv PySem L2
variable [TabL]
def top (i : Nat) : Stmt := PySem.Challenge.pw_typesunwritten_k02_texts_of_no_reading.main.body.getD i (.Pass ⟨0, 0, 0, 0⟩)
abbrev s_is_name : Stmt := top 13
theorem d_is_name {K : PySem.W.Frag} {h : Heap} {mg : Str → Option Value} (X : K.In h) (G : h.Ns mainGlobals mg) {a : Addr} {od an : Option Addr} {sl : Array (Option Value)} {oc kV dc pm cd ct : Value}
    (a1 : PySem.W.nsIn K mainGlobals "is_name" = some (some (.ref a))) (l1 : K.lookup a = some ⟨oc, od, .func (PySem.W.fnOf "is_name" "is_name" (defArgs s_is_name) (defBody s_is_name) (defScope s_is_name) .none kV dc pm an cd ct), sl⟩) (c1 : PySem.W.codeIn K cd "is_name" = true) (k1 : PySem.W.keepIn K (.ref a) = true) : DefOk K mg "is_name" f_is_name :=
  have F := fun_mk (st := s_is_name) l1 c1 k1
  ⟨a, _, s_is_name, ["value", "sign"], ["value"], PySem.W.mg_of X G a1, F, F.binds (ps := ["value"]) fun _ _ _ _ _ _ us hl => match us, hl with | [_], _ => rfl, ⟨rfl, rfl, rfl, by decide +kernel, rfl, by decide +kernel, by decide +kernel⟩, rfl, rfl, by decide, by decide +kernel⟩
abbrev s_is_threefold : Stmt := top 14
theorem d_is_threefold {K : PySem.W.Frag} {h : Heap} {mg : Str → Option Value} (X : K.In h) (G : h.Ns mainGlobals mg) {a : Addr} {od an : Option Addr} {sl : Array (Option Value)} {oc kV dc pm cd ct : Value}
    (a1 : PySem.W.nsIn K mainGlobals "is_threefold" = some (some (.ref a))) (l1 : K.lookup a = some ⟨oc, od, .func (PySem.W.fnOf "is_threefold" "is_threefold" (defArgs s_is_threefold) (defBody s_is_threefold) (defScope s_is_threefold) .none kV dc pm an cd ct), sl⟩) (c1 : PySem.W.codeIn K cd "is_threefold" = true) (k1 : PySem.W.keepIn K (.ref a) = true) : DefOk K mg "is_threefold" f_is_threefold :=
  have F := fun_mk (st := s_is_threefold) l1 c1 k1
  ⟨a, _, s_is_threefold, ["value"], ["value"], PySem.W.mg_of X G a1, F, F.binds (ps := ["value"]) fun _ _ _ _ _ _ us hl => match us, hl with | [_], _ => rfl, ⟨rfl, rfl, rfl, by decide +kernel, rfl, by decide +kernel, by decide +kernel⟩, rfl, rfl, by decide, by decide +kernel⟩
abbrev s_is_tree : Stmt := top 15
theorem d_is_tree {K : PySem.W.Frag} {h : Heap} {mg : Str → Option Value} (X : K.In h) (G : h.Ns mainGlobals mg) {a : Addr} {od an : Option Addr} {sl : Array (Option Value)} {oc kV dc pm cd ct : Value}
    (a1 : PySem.W.nsIn K mainGlobals "is_tree" = some (some (.ref a))) (l1 : K.lookup a = some ⟨oc, od, .func (PySem.W.fnOf "is_tree" "is_tree" (defArgs s_is_tree) (defBody s_is_tree) (defScope s_is_tree) .none kV dc pm an cd ct), sl⟩) (c1 : PySem.W.codeIn K cd "is_tree" = true) (k1 : PySem.W.keepIn K (.ref a) = true) : DefOk K mg "is_tree" f_is_tree :=
  have F := fun_mk (st := s_is_tree) l1 c1 k1
  ⟨a, _, s_is_tree, ["value"], ["value"], PySem.W.mg_of X G a1, F, F.binds (ps := ["value"]) fun _ _ _ _ _ _ us hl => match us, hl with | [_], _ => rfl, ⟨rfl, rfl, rfl, by decide +kernel, rfl, by decide +kernel, by decide +kernel⟩, rfl, rfl, by decide, by decide +kernel⟩
abbrev s_ends_of : Stmt := top 16
theorem d_ends_of {K : PySem.W.Frag} {h : Heap} {mg : Str → Option Value} (X : K.In h) (G : h.Ns mainGlobals mg) {a : Addr} {od an : Option Addr} {sl : Array (Option Value)} {oc kV dc pm cd ct : Value}
    (a1 : PySem.W.nsIn K mainGlobals "ends_of" = some (some (.ref a))) (l1 : K.lookup a = some ⟨oc, od, .func (PySem.W.fnOf "ends_of" "ends_of" (defArgs s_ends_of) (defBody s_ends_of) (defScope s_ends_of) .none kV dc pm an cd ct), sl⟩) (c1 : PySem.W.codeIn K cd "ends_of" = true) (k1 : PySem.W.keepIn K (.ref a) = true) : DefOk K mg "ends_of" f_ends_of :=
  have F := fun_mk (st := s_ends_of) l1 c1 k1
  ⟨a, _, s_ends_of, ["reading"], ["reading"], PySem.W.mg_of X G a1, F, F.binds (ps := ["reading"]) fun _ _ _ _ _ _ us hl => match us, hl with | [_], _ => rfl, ⟨rfl, rfl, rfl, by decide +kernel, rfl, by decide +kernel, by decide +kernel⟩, rfl, rfl, by decide, by decide +kernel⟩
abbrev s_is_reading : Stmt := top 17
theorem d_is_reading {K : PySem.W.Frag} {h : Heap} {mg : Str → Option Value} (X : K.In h) (G : h.Ns mainGlobals mg) {a : Addr} {od an : Option Addr} {sl : Array (Option Value)} {oc kV dc pm cd ct : Value}
    (a1 : PySem.W.nsIn K mainGlobals "is_reading" = some (some (.ref a))) (l1 : K.lookup a = some ⟨oc, od, .func (PySem.W.fnOf "is_reading" "is_reading" (defArgs s_is_reading) (defBody s_is_reading) (defScope s_is_reading) .none kV dc pm an cd ct), sl⟩) (c1 : PySem.W.codeIn K cd "is_reading" = true) (k1 : PySem.W.keepIn K (.ref a) = true) : DefOk K mg "is_reading" f_is_reading :=
  have F := fun_mk (st := s_is_reading) l1 c1 k1
  ⟨a, _, s_is_reading, ["value"], ["value"], PySem.W.mg_of X G a1, F, F.binds (ps := ["value"]) fun _ _ _ _ _ _ us hl => match us, hl with | [_], _ => rfl, ⟨rfl, rfl, rfl, by decide +kernel, rfl, by decide +kernel, by decide +kernel⟩, rfl, rfl, by decide, by decide +kernel⟩
abbrev s_read_name : Stmt := top 18
theorem d_read_name {K : PySem.W.Frag} {h : Heap} {mg : Str → Option Value} (X : K.In h) (G : h.Ns mainGlobals mg) {a : Addr} {od an : Option Addr} {sl : Array (Option Value)} {oc kV dc pm cd ct : Value}
    (a1 : PySem.W.nsIn K mainGlobals "read_name" = some (some (.ref a))) (l1 : K.lookup a = some ⟨oc, od, .func (PySem.W.fnOf "read_name" "read_name" (defArgs s_read_name) (defBody s_read_name) (defScope s_read_name) .none kV dc pm an cd ct), sl⟩) (c1 : PySem.W.codeIn K cd "read_name" = true) (k1 : PySem.W.keepIn K (.ref a) = true) : DefOk K mg "read_name" f_read_name :=
  have F := fun_mk (st := s_read_name) l1 c1 k1
  ⟨a, _, s_read_name, ["text", "at", "spot"], ["text", "at"], PySem.W.mg_of X G a1, F, F.binds (ps := ["text", "at"]) fun _ _ _ _ _ _ us hl => match us, hl with | [_, _], _ => rfl, ⟨rfl, rfl, rfl, by decide +kernel, rfl, by decide +kernel, by decide +kernel⟩, rfl, rfl, by decide, by decide +kernel⟩
abbrev s_read_tree : Stmt := top 19
theorem d_read_tree {K : PySem.W.Frag} {h : Heap} {mg : Str → Option Value} (X : K.In h) (G : h.Ns mainGlobals mg) {a : Addr} {od an : Option Addr} {sl : Array (Option Value)} {oc kV dc pm cd ct : Value}
    (a1 : PySem.W.nsIn K mainGlobals "read_tree" = some (some (.ref a))) (l1 : K.lookup a = some ⟨oc, od, .func (PySem.W.fnOf "read_tree" "read_tree" (defArgs s_read_tree) (defBody s_read_tree) (defScope s_read_tree) .none kV dc pm an cd ct), sl⟩) (c1 : PySem.W.codeIn K cd "read_tree" = true) (k1 : PySem.W.keepIn K (.ref a) = true) : DefOk K mg "read_tree" f_read_tree :=
  have F := fun_mk (st := s_read_tree) l1 c1 k1
  ⟨a, _, s_read_tree, ["text", "at", "depth", "opened", "side", "first", "spot", "second"], ["text", "at", "depth"], PySem.W.mg_of X G a1, F, F.binds (ps := ["text", "at", "depth"]) fun _ _ _ _ _ _ us hl => match us, hl with | [_, _, _], _ => rfl, ⟨rfl, rfl, rfl, by decide +kernel, rfl, by decide +kernel, by decide +kernel⟩, rfl, rfl, by decide, by decide +kernel⟩
abbrev s_reading_in : Stmt := top 20
theorem d_reading_in {K : PySem.W.Frag} {h : Heap} {mg : Str → Option Value} (X : K.In h) (G : h.Ns mainGlobals mg) {a : Addr} {od an : Option Addr} {sl : Array (Option Value)} {oc kV dc pm cd ct : Value}
    (a1 : PySem.W.nsIn K mainGlobals "reading_in" = some (some (.ref a))) (l1 : K.lookup a = some ⟨oc, od, .func (PySem.W.fnOf "reading_in" "reading_in" (defArgs s_reading_in) (defBody s_reading_in) (defScope s_reading_in) .none kV dc pm an cd ct), sl⟩) (c1 : PySem.W.codeIn K cd "reading_in" = true) (k1 : PySem.W.keepIn K (.ref a) = true) : DefOk K mg "reading_in" f_reading_in :=
  have F := fun_mk (st := s_reading_in) l1 c1 k1
  ⟨a, _, s_reading_in, ["text", "found", "end"], ["text"], PySem.W.mg_of X G a1, F, F.binds (ps := ["text"]) fun _ _ _ _ _ _ us hl => match us, hl with | [_], _ => rfl, ⟨rfl, rfl, rfl, by decide +kernel, rfl, by decide +kernel, by decide +kernel⟩, rfl, rfl, by decide, by decide +kernel⟩
abbrev s_reading_of : Stmt := top 21
theorem d_reading_of {K : PySem.W.Frag} {h : Heap} {mg : Str → Option Value} (X : K.In h) (G : h.Ns mainGlobals mg) {a : Addr} {od an : Option Addr} {sl : Array (Option Value)} {oc kV dc pm cd ct : Value}
    (a1 : PySem.W.nsIn K mainGlobals "reading_of" = some (some (.ref a))) (l1 : K.lookup a = some ⟨oc, od, .func (PySem.W.fnOf "reading_of" "reading_of" (defArgs s_reading_of) (defBody s_reading_of) (defScope s_reading_of) .none kV dc pm an cd ct), sl⟩) (c1 : PySem.W.codeIn K cd "reading_of" = true) (k1 : PySem.W.keepIn K (.ref a) = true) : DefOk K mg "reading_of" f_reading_of :=
  have F := fun_mk (st := s_reading_of) l1 c1 k1
  ⟨a, _, s_reading_of, ["text", "found"], ["text"], PySem.W.mg_of X G a1, F, F.binds (ps := ["text"]) fun _ _ _ _ _ _ us hl => match us, hl with | [_], _ => rfl, ⟨rfl, rfl, rfl, by decide +kernel, rfl, by decide +kernel, by decide +kernel⟩, rfl, rfl, by decide, by decide +kernel⟩
abbrev s__law_pot : Stmt := top 23
theorem d__law_pot {K : PySem.W.Frag} {h : Heap} {mg : Str → Option Value} (X : K.In h) (G : h.Ns mainGlobals mg) {a : Addr} {od an : Option Addr} {sl : Array (Option Value)} {oc kV dc pm cd ct : Value}
    (a1 : PySem.W.nsIn K mainGlobals "_law_pot" = some (some (.ref a))) (l1 : K.lookup a = some ⟨oc, od, .func (PySem.W.fnOf "_law_pot" "_law_pot" (defArgs s__law_pot) (defBody s__law_pot) (defScope s__law_pot) .none kV dc pm an cd ct), sl⟩) (c1 : PySem.W.codeIn K cd "_law_pot" = true) (k1 : PySem.W.keepIn K (.ref a) = true) : DefOk K mg "_law_pot" f__law_pot :=
  have F := fun_mk (st := s__law_pot) l1 c1 k1
  ⟨a, _, s__law_pot, ["_law_script", "_law_place", "_law_cell", "_law_own", "_law_small"], ["_law_script", "_law_place"], PySem.W.mg_of X G a1, F, F.binds (ps := ["_law_script", "_law_place"]) fun _ _ _ _ _ _ us hl => match us, hl with | [_, _], _ => rfl, ⟨rfl, rfl, rfl, by decide +kernel, rfl, by decide +kernel, by decide +kernel⟩, rfl, rfl, by decide, by decide +kernel⟩
abbrev s__law_take : Stmt := top 24
theorem d__law_take {K : PySem.W.Frag} {h : Heap} {mg : Str → Option Value} (X : K.In h) (G : h.Ns mainGlobals mg) {a : Addr} {od an : Option Addr} {sl : Array (Option Value)} {oc kV dc pm cd ct : Value}
    (a1 : PySem.W.nsIn K mainGlobals "_law_take" = some (some (.ref a))) (l1 : K.lookup a = some ⟨oc, od, .func (PySem.W.fnOf "_law_take" "_law_take" (defArgs s__law_take) (defBody s__law_take) (defScope s__law_take) .none kV dc pm an cd ct), sl⟩) (c1 : PySem.W.codeIn K cd "_law_take" = true) (k1 : PySem.W.keepIn K (.ref a) = true) : DefOk K mg "_law_take" f__law_take :=
  have F := fun_mk (st := s__law_take) l1 c1 k1
  ⟨a, _, s__law_take, ["_law_pot_here", "_law_upto", "_law_digit", "_law_prime", "_law_mixed"], ["_law_pot_here", "_law_upto"], PySem.W.mg_of X G a1, F, F.binds (ps := ["_law_pot_here", "_law_upto"]) fun _ _ _ _ _ _ us hl => match us, hl with | [_, _], _ => rfl, ⟨rfl, rfl, rfl, by decide +kernel, rfl, by decide +kernel, by decide +kernel⟩, rfl, rfl, by decide, by decide +kernel⟩
abbrev s__law_of : Stmt := top 25
theorem d__law_of {K : PySem.W.Frag} {h : Heap} {mg : Str → Option Value} (X : K.In h) (G : h.Ns mainGlobals mg) {a : Addr} {od an : Option Addr} {sl : Array (Option Value)} {oc kV dc pm cd ct : Value}
    (a1 : PySem.W.nsIn K mainGlobals "_law_of" = some (some (.ref a))) (l1 : K.lookup a = some ⟨oc, od, .func (PySem.W.fnOf "_law_of" "_law_of" (defArgs s__law_of) (defBody s__law_of) (defScope s__law_of) .none kV dc pm an cd ct), sl⟩) (c1 : PySem.W.codeIn K cd "_law_of" = true) (k1 : PySem.W.keepIn K (.ref a) = true) : DefOk K mg "_law_of" f__law_of :=
  have F := fun_mk (st := s__law_of) l1 c1 k1
  ⟨a, _, s__law_of, ["_law_pot_here", "_law_some_here"], ["_law_pot_here", "_law_some_here"], PySem.W.mg_of X G a1, F, F.binds (ps := ["_law_pot_here", "_law_some_here"]) fun _ _ _ _ _ _ us hl => match us, hl with | [_, _], _ => rfl, ⟨rfl, rfl, rfl, by decide +kernel, rfl, by decide +kernel, by decide +kernel⟩, rfl, rfl, by decide, by decide +kernel⟩
abbrev s__law_some : Stmt := top 26
theorem d__law_some {K : PySem.W.Frag} {h : Heap} {mg : Str → Option Value} (X : K.In h) (G : h.Ns mainGlobals mg) {a : Addr} {od an : Option Addr} {sl : Array (Option Value)} {oc kV dc pm cd ct : Value}
    (a1 : PySem.W.nsIn K mainGlobals "_law_some" = some (some (.ref a))) (l1 : K.lookup a = some ⟨oc, od, .func (PySem.W.fnOf "_law_some" "_law_some" (defArgs s__law_some) (defBody s__law_some) (defScope s__law_some) .none kV dc pm an cd ct), sl⟩) (c1 : PySem.W.codeIn K cd "_law_some" = true) (k1 : PySem.W.keepIn K (.ref a) = true) : DefOk K mg "_law_some" f__law_some :=
  have F := fun_mk (st := s__law_some) l1 c1 k1
  ⟨a, _, s__law_some, ["_law_pot_here", "_law_pool", "_law_many", "_law_rest", "_law_found", "_law_lap"], ["_law_pot_here", "_law_pool", "_law_many"], PySem.W.mg_of X G a1, F, F.binds (ps := ["_law_pot_here", "_law_pool", "_law_many"]) fun _ _ _ _ _ _ us hl => match us, hl with | [_, _, _], _ => rfl, ⟨rfl, rfl, rfl, by decide +kernel, rfl, by decide +kernel, by decide +kernel⟩, rfl, rfl, by decide, by decide +kernel⟩
abbrev s__law_cells : Stmt := top 27
theorem d__law_cells {K : PySem.W.Frag} {h : Heap} {mg : Str → Option Value} (X : K.In h) (G : h.Ns mainGlobals mg) {a : Addr} {od an : Option Addr} {sl : Array (Option Value)} {oc kV dc pm cd ct : Value}
    (a1 : PySem.W.nsIn K mainGlobals "_law_cells" = some (some (.ref a))) (l1 : K.lookup a = some ⟨oc, od, .func (PySem.W.fnOf "_law_cells" "_law_cells" (defArgs s__law_cells) (defBody s__law_cells) (defScope s__law_cells) .none kV dc pm an cd ct), sl⟩) (c1 : PySem.W.codeIn K cd "_law_cells" = true) (k1 : PySem.W.keepIn K (.ref a) = true) : DefOk K mg "_law_cells" f__law_cells :=
  have F := fun_mk (st := s__law_cells) l1 c1 k1
  ⟨a, _, s__law_cells, ["_law_script", "_law_most"], ["_law_script", "_law_most"], PySem.W.mg_of X G a1, F, F.binds (ps := ["_law_script", "_law_most"]) fun _ _ _ _ _ _ us hl => match us, hl with | [_, _], _ => rfl, ⟨rfl, rfl, rfl, by decide +kernel, rfl, by decide +kernel, by decide +kernel⟩, rfl, rfl, by decide, by decide +kernel⟩
abbrev s__law_odd : Stmt := top 29
theorem d__law_odd {K : PySem.W.Frag} {h : Heap} {mg : Str → Option Value} (X : K.In h) (G : h.Ns mainGlobals mg) {a : Addr} {od an : Option Addr} {sl : Array (Option Value)} {oc kV dc pm cd ct : Value}
    (a1 : PySem.W.nsIn K mainGlobals "_law_odd" = some (some (.ref a))) (l1 : K.lookup a = some ⟨oc, od, .func (PySem.W.fnOf "_law_odd" "_law_odd" (defArgs s__law_odd) (defBody s__law_odd) (defScope s__law_odd) .none kV dc pm an cd ct), sl⟩) (c1 : PySem.W.codeIn K cd "_law_odd" = true) (k1 : PySem.W.keepIn K (.ref a) = true) : DefOk K mg "_law_odd" f__law_odd :=
  have F := fun_mk (st := s__law_odd) l1 c1 k1
  ⟨a, _, s__law_odd, ["_law_pot_here", "_law_some_here"], ["_law_pot_here"], PySem.W.mg_of X G a1, F, F.binds (ps := ["_law_pot_here"]) fun _ _ _ _ _ _ us hl => match us, hl with | [_], _ => rfl, ⟨rfl, rfl, rfl, by decide +kernel, rfl, by decide +kernel, by decide +kernel⟩, rfl, rfl, by decide, by decide +kernel⟩
abbrev s__law_ends : Stmt := top 30
theorem d__law_ends {K : PySem.W.Frag} {h : Heap} {mg : Str → Option Value} (X : K.In h) (G : h.Ns mainGlobals mg) {a : Addr} {od an : Option Addr} {sl : Array (Option Value)} {oc kV dc pm cd ct : Value}
    (a1 : PySem.W.nsIn K mainGlobals "_law_ends" = some (some (.ref a))) (l1 : K.lookup a = some ⟨oc, od, .func (PySem.W.fnOf "_law_ends" "_law_ends" (defArgs s__law_ends) (defBody s__law_ends) (defScope s__law_ends) .none kV dc pm an cd ct), sl⟩) (c1 : PySem.W.codeIn K cd "_law_ends" = true) (k1 : PySem.W.keepIn K (.ref a) = true) : DefOk K mg "_law_ends" f__law_ends :=
  have F := fun_mk (st := s__law_ends) l1 c1 k1
  ⟨a, _, s__law_ends, ["_law_reading"], ["_law_reading"], PySem.W.mg_of X G a1, F, F.binds (ps := ["_law_reading"]) fun _ _ _ _ _ _ us hl => match us, hl with | [_], _ => rfl, ⟨rfl, rfl, rfl, by decide +kernel, rfl, by decide +kernel, by decide +kernel⟩, rfl, rfl, by decide, by decide +kernel⟩
abbrev s__law_spelled : Stmt := top 31
theorem d__law_spelled {K : PySem.W.Frag} {h : Heap} {mg : Str → Option Value} (X : K.In h) (G : h.Ns mainGlobals mg) {a : Addr} {od an : Option Addr} {sl : Array (Option Value)} {oc kV dc pm cd ct : Value}
    (a1 : PySem.W.nsIn K mainGlobals "_law_spelled" = some (some (.ref a))) (l1 : K.lookup a = some ⟨oc, od, .func (PySem.W.fnOf "_law_spelled" "_law_spelled" (defArgs s__law_spelled) (defBody s__law_spelled) (defScope s__law_spelled) .none kV dc pm an cd ct), sl⟩) (c1 : PySem.W.codeIn K cd "_law_spelled" = true) (k1 : PySem.W.keepIn K (.ref a) = true) : DefOk K mg "_law_spelled" f__law_spelled :=
  have F := fun_mk (st := s__law_spelled) l1 c1 k1
  ⟨a, _, s__law_spelled, ["_law_reading", "_law_marks"], ["_law_reading"], PySem.W.mg_of X G a1, F, F.binds (ps := ["_law_reading"]) fun _ _ _ _ _ _ us hl => match us, hl with | [_], _ => rfl, ⟨rfl, rfl, rfl, by decide +kernel, rfl, by decide +kernel, by decide +kernel⟩, rfl, rfl, by decide, by decide +kernel⟩
abbrev s__law_is_name : Stmt := top 32
theorem d__law_is_name {K : PySem.W.Frag} {h : Heap} {mg : Str → Option Value} (X : K.In h) (G : h.Ns mainGlobals mg) {a : Addr} {od an : Option Addr} {sl : Array (Option Value)} {oc kV dc pm cd ct : Value}
    (a1 : PySem.W.nsIn K mainGlobals "_law_is_name" = some (some (.ref a))) (l1 : K.lookup a = some ⟨oc, od, .func (PySem.W.fnOf "_law_is_name" "_law_is_name" (defArgs s__law_is_name) (defBody s__law_is_name) (defScope s__law_is_name) .none kV dc pm an cd ct), sl⟩) (c1 : PySem.W.codeIn K cd "_law_is_name" = true) (k1 : PySem.W.keepIn K (.ref a) = true) : DefOk K mg "_law_is_name" f__law_is_name :=
  have F := fun_mk (st := s__law_is_name) l1 c1 k1
  ⟨a, _, s__law_is_name, ["_law_value", "_law_letters", "_law_one"], ["_law_value"], PySem.W.mg_of X G a1, F, F.binds (ps := ["_law_value"]) fun _ _ _ _ _ _ us hl => match us, hl with | [_], _ => rfl, ⟨rfl, rfl, rfl, by decide +kernel, rfl, by decide +kernel, by decide +kernel⟩, rfl, rfl, by decide, by decide +kernel⟩
abbrev s__law_words : Stmt := top 33
theorem d__law_words {K : PySem.W.Frag} {h : Heap} {mg : Str → Option Value} (X : K.In h) (G : h.Ns mainGlobals mg) {a : Addr} {od an : Option Addr} {sl : Array (Option Value)} {oc kV dc pm cd ct : Value}
    (a1 : PySem.W.nsIn K mainGlobals "_law_words" = some (some (.ref a))) (l1 : K.lookup a = some ⟨oc, od, .func (PySem.W.fnOf "_law_words" "_law_words" (defArgs s__law_words) (defBody s__law_words) (defScope s__law_words) .none kV dc pm an cd ct), sl⟩) (c1 : PySem.W.codeIn K cd "_law_words" = true) (k1 : PySem.W.keepIn K (.ref a) = true) : DefOk K mg "_law_words" f__law_words :=
  have F := fun_mk (st := s__law_words) l1 c1 k1
  ⟨a, _, s__law_words, ["_law_pot_here", "_law_few", "_law_most", "_law_pool"], ["_law_pot_here", "_law_few", "_law_most"], PySem.W.mg_of X G a1, F, F.binds (ps := ["_law_pot_here", "_law_few", "_law_most"]) fun _ _ _ _ _ _ us hl => match us, hl with | [_, _, _], _ => rfl, ⟨rfl, rfl, rfl, by decide +kernel, rfl, by decide +kernel, by decide +kernel⟩, rfl, rfl, by decide, by decide +kernel⟩
abbrev s__law_tree : Stmt := top 34
theorem d__law_tree {K : PySem.W.Frag} {h : Heap} {mg : Str → Option Value} (X : K.In h) (G : h.Ns mainGlobals mg) {a : Addr} {od an : Option Addr} {sl : Array (Option Value)} {oc kV dc pm cd ct : Value}
    (a1 : PySem.W.nsIn K mainGlobals "_law_tree" = some (some (.ref a))) (l1 : K.lookup a = some ⟨oc, od, .func (PySem.W.fnOf "_law_tree" "_law_tree" (defArgs s__law_tree) (defBody s__law_tree) (defScope s__law_tree) .none kV dc pm an cd ct), sl⟩) (c1 : PySem.W.codeIn K cd "_law_tree" = true) (k1 : PySem.W.keepIn K (.ref a) = true) : DefOk K mg "_law_tree" f__law_tree :=
  have F := fun_mk (st := s__law_tree) l1 c1 k1
  ⟨a, _, s__law_tree, ["_law_pot_here", "_law_words_here", "_law_ends_here", "_law_cut", "_law_side"], ["_law_pot_here", "_law_words_here", "_law_ends_here"], PySem.W.mg_of X G a1, F, F.binds (ps := ["_law_pot_here", "_law_words_here", "_law_ends_here"]) fun _ _ _ _ _ _ us hl => match us, hl with | [_, _, _], _ => rfl, ⟨rfl, rfl, rfl, by decide +kernel, rfl, by decide +kernel, by decide +kernel⟩, rfl, rfl, by decide, by decide +kernel⟩
abbrev s__law_read : Stmt := top 35
theorem d__law_read {K : PySem.W.Frag} {h : Heap} {mg : Str → Option Value} (X : K.In h) (G : h.Ns mainGlobals mg) {a : Addr} {od an : Option Addr} {sl : Array (Option Value)} {oc kV dc pm cd ct : Value}
    (a1 : PySem.W.nsIn K mainGlobals "_law_read" = some (some (.ref a))) (l1 : K.lookup a = some ⟨oc, od, .func (PySem.W.fnOf "_law_read" "_law_read" (defArgs s__law_read) (defBody s__law_read) (defScope s__law_read) .none kV dc pm an cd ct), sl⟩) (c1 : PySem.W.codeIn K cd "_law_read" = true) (k1 : PySem.W.keepIn K (.ref a) = true) : DefOk K mg "_law_read" f__law_read :=
  have F := fun_mk (st := s__law_read) l1 c1 k1
  ⟨a, _, s__law_read, ["_law_text", "_law_depth", "_law_cuts", "_law_at", "_law_sign", "_law_first", "_law_second"], ["_law_text"], PySem.W.mg_of X G a1, F, F.binds (ps := ["_law_text"]) fun _ _ _ _ _ _ us hl => match us, hl with | [_], _ => rfl, ⟨rfl, rfl, rfl, by decide +kernel, rfl, by decide +kernel, by decide +kernel⟩, rfl, rfl, by decide, by decide +kernel⟩
abbrev s__law_spoilt : Stmt := top 36
theorem d__law_spoilt {K : PySem.W.Frag} {h : Heap} {mg : Str → Option Value} (X : K.In h) (G : h.Ns mainGlobals mg) {a : Addr} {od an : Option Addr} {sl : Array (Option Value)} {oc kV dc pm cd ct : Value}
    (a1 : PySem.W.nsIn K mainGlobals "_law_spoilt" = some (some (.ref a))) (l1 : K.lookup a = some ⟨oc, od, .func (PySem.W.fnOf "_law_spoilt" "_law_spoilt" (defArgs s__law_spoilt) (defBody s__law_spoilt) (defScope s__law_spoilt) .none kV dc pm an cd ct), sl⟩) (c1 : PySem.W.codeIn K cd "_law_spoilt" = true) (k1 : PySem.W.keepIn K (.ref a) = true) : DefOk K mg "_law_spoilt" f__law_spoilt :=
  have F := fun_mk (st := s__law_spoilt) l1 c1 k1
  ⟨a, _, s__law_spoilt, ["_law_pot_here", "_law_text", "_law_at", "_law_sign", "_law_way"], ["_law_pot_here", "_law_text"], PySem.W.mg_of X G a1, F, F.binds (ps := ["_law_pot_here", "_law_text"]) fun _ _ _ _ _ _ us hl => match us, hl with | [_, _], _ => rfl, ⟨rfl, rfl, rfl, by decide +kernel, rfl, by decide +kernel, by decide +kernel⟩, rfl, rfl, by decide, by decide +kernel⟩
abbrev s__law_is_judged : Stmt := top 37
theorem d__law_is_judged {K : PySem.W.Frag} {h : Heap} {mg : Str → Option Value} (X : K.In h) (G : h.Ns mainGlobals mg) {a : Addr} {od an : Option Addr} {sl : Array (Option Value)} {oc kV dc pm cd ct : Value}
    (a1 : PySem.W.nsIn K mainGlobals "_law_is_judged" = some (some (.ref a))) (l1 : K.lookup a = some ⟨oc, od, .func (PySem.W.fnOf "_law_is_judged" "_law_is_judged" (defArgs s__law_is_judged) (defBody s__law_is_judged) (defScope s__law_is_judged) .none kV dc pm an cd ct), sl⟩) (c1 : PySem.W.codeIn K cd "_law_is_judged" = true) (k1 : PySem.W.keepIn K (.ref a) = true) : DefOk K mg "_law_is_judged" f__law_is_judged :=
  have F := fun_mk (st := s__law_is_judged) l1 c1 k1
  ⟨a, _, s__law_is_judged, ["_law_text", "_law_due", "_law_caught", "_law_told"], ["_law_text"], PySem.W.mg_of X G a1, F, F.binds (ps := ["_law_text"]) fun _ _ _ _ _ _ us hl => match us, hl with | [_], _ => rfl, ⟨rfl, rfl, rfl, by decide +kernel, rfl, by decide +kernel, by decide +kernel⟩, rfl, rfl, by decide, by decide +kernel⟩
abbrev s__law_right : Stmt := top 38
theorem d__law_right {K : PySem.W.Frag} {h : Heap} {mg : Str → Option Value} (X : K.In h) (G : h.Ns mainGlobals mg) {a : Addr} {od an : Option Addr} {sl : Array (Option Value)} {oc kV dc pm cd ct : Value}
    (a1 : PySem.W.nsIn K mainGlobals "_law_right" = some (some (.ref a))) (l1 : K.lookup a = some ⟨oc, od, .func (PySem.W.fnOf "_law_right" "_law_right" (defArgs s__law_right) (defBody s__law_right) (defScope s__law_right) .none kV dc pm an cd ct), sl⟩) (c1 : PySem.W.codeIn K cd "_law_right" = true) (k1 : PySem.W.keepIn K (.ref a) = true) : DefOk K mg "_law_right" f__law_right :=
  have F := fun_mk (st := s__law_right) l1 c1 k1
  ⟨a, _, s__law_right, ["_law_pot_here", "_law_words_here", "_law_texts", "_law_lap", "_law_text", "_law_turn", "_law_value", "_law_caught"], ["_law_pot_here"], PySem.W.mg_of X G a1, F, F.binds (ps := ["_law_pot_here"]) fun _ _ _ _ _ _ us hl => match us, hl with | [_], _ => rfl, ⟨rfl, rfl, rfl, by decide +kernel, rfl, by decide +kernel, by decide +kernel⟩, rfl, rfl, by decide, by decide +kernel⟩
abbrev s_law : Stmt := top 39
theorem d_law {K : PySem.W.Frag} {h : Heap} {mg : Str → Option Value} (X : K.In h) (G : h.Ns mainGlobals mg) {a : Addr} {od an : Option Addr} {sl : Array (Option Value)} {oc kV dc pm cd ct : Value}
    (a1 : PySem.W.nsIn K mainGlobals "law" = some (some (.ref a))) (l1 : K.lookup a = some ⟨oc, od, .func (PySem.W.fnOf "law" "law" (defArgs s_law) (defBody s_law) (defScope s_law) .none kV dc pm an cd ct), sl⟩) (c1 : PySem.W.codeIn K cd "law" = true) (k1 : PySem.W.keepIn K (.ref a) = true) : DefOk K mg "law" f_law :=
  have F := fun_mk (st := s_law) l1 c1 k1
  ⟨a, _, s_law, ["_law_script", "_law_place"], ["_law_script"], PySem.W.mg_of X G a1, F, F.binds (ps := ["_law_script"]) fun _ _ _ _ _ _ us hl => match us, hl with | [_], _ => rfl, ⟨rfl, rfl, rfl, by decide +kernel, rfl, by decide +kernel, by decide +kernel⟩, rfl, rfl, by decide, by decide +kernel⟩
abbrev s__law_heard : Stmt := top 28
theorem d__law_heard {K : PySem.W.Frag} {h : Heap} {mg : Str → Option Value} (X : K.In h) (G : h.Ns mainGlobals mg) {a : Addr} {od an : Option Addr} {sl : Array (Option Value)} {oc kV dc pm cd ct : Value}
    (a1 : PySem.W.nsIn K mainGlobals "_law_heard" = some (some (.ref a))) (l1 : K.lookup a = some ⟨oc, od, .func (PySem.W.fnOf "_law_heard" "_law_heard" (defArgs s__law_heard) (defBody s__law_heard) (defScope s__law_heard) .none kV dc pm an cd ct), sl⟩) (c1 : PySem.W.codeIn K cd "_law_heard" = true) (k1 : PySem.W.keepIn K (.ref a) = true) : HearOk K mg "_law_heard" :=
  have F := fun_mk (st := s__law_heard) l1 c1 k1
  ⟨a, _, s__law_heard, "_law_look", ["_law_look", "_law_caught", "_law_back", "error"], PySem.W.mg_of X G a1, F, F.binds (ps := ["_law_look"]) fun _ _ _ _ _ _ us hl => match us, hl with | [_], _ => rfl, ⟨rfl, rfl, rfl, by decide +kernel, rfl, by decide +kernel, by decide +kernel⟩, rfl, by decide +kernel⟩
end K02

set_option maxRecDepth 100000
open PySem PySem.W PyProof.Rows
set_option maxRecDepth 100000 in
set_option maxHeartbeats 0 in
theorem PySem.Challenge.cw_typesunwritten_k02_texts_of_no_reading_holds : PySem.Challenge.rw_typesunwritten_k02_texts_of_no_reading.Holds := by
  w_on; o_law; k_head; (case hw => w_witness2)
  k_fill
  refine PyEv.walk (l := PySem.Challenge.rw_typesunwritten_k02_texts_of_no_reading) (n := 63) (k := 64) K02.P K02.f_law ["is_name", "is_threefold", "is_tree", "ends_of", "is_reading", "read_name", "read_tree", "reading_in", "reading_of", "_law_pot", "_law_take", "_law_of", "_law_some", "_law_cells", "_law_odd", "_law_ends", "_law_spelled", "_law_is_name", "_law_words", "_law_tree", "_law_read", "_law_spoilt", "_law_is_judged", "_law_right", "law"] (by first | rfl | decide +kernel) rfl (by decide) rfl ⟨rfl, by decide, by decide⟩ (fun w h Y => by first | exact PySem.W.kIn_of Y | exact PySem.W.km_in_of Y) (fun w => by first | rfl | decide +kernel) ?T K02.look K02.main
  case T =>
    intro _ w mg h KX G
    refine ⟨⟨?xs, PyEv.AllDefs.of ?fs, PyEv.AllBlt.of (l := PyEv.bltNames) KX G ?bs, PyEv.AllCons.of ?cs⟩, ?hh⟩
    case xs =>
      refine' (fun S => ?r) (PyEv.tuS_mk (prog := PySem.Challenge.rw_typesunwritten_k02_texts_of_no_reading.prog) KX ?nT ?iC ?l1 ?l2 ?l6 ?l9 ?l10 ?an ?ti ?hn ?ht ?l3 ?l4 ?l5 ?l7 ?l8 ?tp)
      (case nT => first | k_is | rfl)
      (case iC => first | k_is | rfl)
      (case l1 => first | k_is | rfl)
      (case l2 => first | k_is | rfl)
      (case l6 => first | k_is | rfl)
      (case l9 => first | k_is | rfl)
      (case l10 => first | k_is | rfl)
      (case an => first | k_is | rfl)
      (case ti => first | k_is | rfl)
      (case hn => first | k_is | rfl)
      (case ht => first | k_is | rfl)
      (case l3 => exact fun s u v => .of_eq rfl); (case l4 => rfl); (case l5 => rfl); (case l7 => rfl); (case l8 => first | rfl | decide +kernel); (case tp => first | rfl | decide +kernel)
      case r =>
        refine' PyEv.excs_of [("TypeUnknown", ?c0), ("BadText", ?c1)] (PyEv.AllExc.more (PyEv.excF_mk S KX G ?qn0 ?qx0 ?qb0 ?qh0 ?qg0 ?sa0 ?qk0 ?qi0 ?qv0 ?ga0 ?gg0 ?ha0) (PyEv.AllExc.more (PyEv.excF_mk S KX G ?qn1 ?qx1 ?qb1 ?qh1 ?qg1 ?sa1 ?qk1 ?qi1 ?qv1 ?ga1 ?gg1 ?ha1) (trivial : PyEv.AllExc _ _ _ _ []))) rfl ?nd rfl rfl (PySem.W.mg_none_of KX G ?sup) (PySem.W.mg_none_of KX G ?ve)
        (case qn0 => k_is); (case qx0 => k_is); (case qb0 => rfl); (case qh0 => exact fun _ => rfl); (case qg0 => exact fun z => absurd rfl z); (case sa0 => k_is); (case qk0 => k_is); (case qi0 => k_is); (case qv0 => k_is); (case ga0 => k_is); (case gg0 => k_is); (case ha0 => k_is)
        (case qn1 => k_is); (case qx1 => k_is); (case qb1 => rfl); (case qh1 => exact fun z => absurd z (by decide)); (case qg1 => exact fun _ => by decide); (case sa1 => k_is); (case qk1 => k_is); (case qi1 => k_is); (case qv1 => k_is); (case ga1 => k_is); (case gg1 => k_is); (case ha1 => k_is)
        (case nd => decide); (case sup => k_is); (case ve => k_is)
    case fs =>
      refine ⟨?_, ?_⟩
      · refine' K02.d_is_name KX G ?a ?l ?c ?k
        (case a => k_is); (case l => k_is); (case c => k_is); (case k => k_is)
      refine ⟨?_, ?_⟩
      · refine' K02.d_is_threefold KX G ?a ?l ?c ?k
        (case a => k_is); (case l => k_is); (case c => k_is); (case k => k_is)
      refine ⟨?_, ?_⟩
      · refine' K02.d_is_tree KX G ?a ?l ?c ?k
        (case a => k_is); (case l => k_is); (case c => k_is); (case k => k_is)
      refine ⟨?_, ?_⟩
      · refine' K02.d_ends_of KX G ?a ?l ?c ?k
        (case a => k_is); (case l => k_is); (case c => k_is); (case k => k_is)
      refine ⟨?_, ?_⟩
      · refine' K02.d_is_reading KX G ?a ?l ?c ?k
        (case a => k_is); (case l => k_is); (case c => k_is); (case k => k_is)
      refine ⟨?_, ?_⟩
      · refine' K02.d_read_name KX G ?a ?l ?c ?k
        (case a => k_is); (case l => k_is); (case c => k_is); (case k => k_is)
      refine ⟨?_, ?_⟩
      · refine' K02.d_read_tree KX G ?a ?l ?c ?k
        (case a => k_is); (case l => k_is); (case c => k_is); (case k => k_is)
      refine ⟨?_, ?_⟩
      · refine' K02.d_reading_in KX G ?a ?l ?c ?k
        (case a => k_is); (case l => k_is); (case c => k_is); (case k => k_is)
      refine ⟨?_, ?_⟩
      · refine' K02.d_reading_of KX G ?a ?l ?c ?k
        (case a => k_is); (case l => k_is); (case c => k_is); (case k => k_is)
      refine ⟨?_, ?_⟩
      · refine' K02.d__law_pot KX G ?a ?l ?c ?k
        (case a => k_is); (case l => k_is); (case c => k_is); (case k => k_is)
      refine ⟨?_, ?_⟩
      · refine' K02.d__law_take KX G ?a ?l ?c ?k
        (case a => k_is); (case l => k_is); (case c => k_is); (case k => k_is)
      refine ⟨?_, ?_⟩
      · refine' K02.d__law_of KX G ?a ?l ?c ?k
        (case a => k_is); (case l => k_is); (case c => k_is); (case k => k_is)
      refine ⟨?_, ?_⟩
      · refine' K02.d__law_some KX G ?a ?l ?c ?k
        (case a => k_is); (case l => k_is); (case c => k_is); (case k => k_is)
      refine ⟨?_, ?_⟩
      · refine' K02.d__law_cells KX G ?a ?l ?c ?k
        (case a => k_is); (case l => k_is); (case c => k_is); (case k => k_is)
      refine ⟨?_, ?_⟩
      · refine' K02.d__law_odd KX G ?a ?l ?c ?k
        (case a => k_is); (case l => k_is); (case c => k_is); (case k => k_is)
      refine ⟨?_, ?_⟩
      · refine' K02.d__law_ends KX G ?a ?l ?c ?k
        (case a => k_is); (case l => k_is); (case c => k_is); (case k => k_is)
      refine ⟨?_, ?_⟩
      · refine' K02.d__law_spelled KX G ?a ?l ?c ?k
        (case a => k_is); (case l => k_is); (case c => k_is); (case k => k_is)
      refine ⟨?_, ?_⟩
      · refine' K02.d__law_is_name KX G ?a ?l ?c ?k
        (case a => k_is); (case l => k_is); (case c => k_is); (case k => k_is)
      refine ⟨?_, ?_⟩
      · refine' K02.d__law_words KX G ?a ?l ?c ?k
        (case a => k_is); (case l => k_is); (case c => k_is); (case k => k_is)
      refine ⟨?_, ?_⟩
      · refine' K02.d__law_tree KX G ?a ?l ?c ?k
        (case a => k_is); (case l => k_is); (case c => k_is); (case k => k_is)
      refine ⟨?_, ?_⟩
      · refine' K02.d__law_read KX G ?a ?l ?c ?k
        (case a => k_is); (case l => k_is); (case c => k_is); (case k => k_is)
      refine ⟨?_, ?_⟩
      · refine' K02.d__law_spoilt KX G ?a ?l ?c ?k
        (case a => k_is); (case l => k_is); (case c => k_is); (case k => k_is)
      refine ⟨?_, ?_⟩
      · refine' K02.d__law_is_judged KX G ?a ?l ?c ?k
        (case a => k_is); (case l => k_is); (case c => k_is); (case k => k_is)
      refine ⟨?_, ?_⟩
      · refine' K02.d__law_right KX G ?a ?l ?c ?k
        (case a => k_is); (case l => k_is); (case c => k_is); (case k => k_is)
      refine ⟨?_, ?_⟩
      · refine' K02.d_law KX G ?a ?l ?c ?k
        (case a => k_is); (case l => k_is); (case c => k_is); (case k => k_is)
      exact trivial
    case bs =>
      refine ⟨?_, ?_, ?_, ?_, ?_, ?_, ?_, ?_, ?_, ?_, ?_, ?_, ?_, ?_, ?_, ?_, ?_, trivial⟩
      · k_is
      · k_is
      · k_is
      · k_is
      · k_is
      · k_is
      · k_is
      · k_is
      · k_is
      · k_is
      · k_is
      · k_is
      · k_is
      · k_is
      · k_is
      · k_is
      · k_is
    case cs =>
      refine ⟨?_, ?_⟩
      · refine' PyEv.con_int KX G ?a
        (case a => k_is)
      refine ⟨?_, ?_⟩
      · refine' PyEv.con_int KX G ?a
        (case a => k_is)
      refine ⟨?_, ?_⟩
      · refine' PyEv.con_str KX G ?a
        (case a => k_is)
      refine ⟨?_, ?_⟩
      · refine' PyEv.con_str KX G ?a
        (case a => k_is)
      refine ⟨?_, ?_⟩
      · refine' PyEv.con_dct KX G ?a ?l ?low ?kl ?dn
        (case a => k_is); (case l => k_is); (case low => first | rfl | decide)
        (case kl => exact .sS rfl rfl rfl (.sS rfl rfl rfl (.nil)))
        (case dn => exact fun _ => .cons (.str _) (.cons (.str _) (.nil)))
      refine ⟨?_, ?_⟩
      · refine' PyEv.con_dct KX G ?a ?l ?low ?kl ?dn
        (case a => k_is); (case l => k_is); (case low => first | rfl | decide)
        (case kl => exact .sS rfl rfl rfl (.sS rfl rfl rfl (.nil)))
        (case dn => exact fun _ => .cons (.str _) (.cons (.str _) (.nil)))
      refine ⟨?_, ?_⟩
      · refine' PyEv.con_dct KX G ?a ?l ?low ?kl ?dn
        (case a => k_is); (case l => k_is); (case low => first | rfl | decide)
        (case kl => exact .sS rfl rfl rfl (.sS rfl rfl rfl (.nil)))
        (case dn => exact fun _ => .cons (.str _) (.cons (.str _) (.nil)))
      exact trivial
    case hh =>
      intro hn z
      obtain rfl := List.mem_singleton.mp (List.contains_iff_mem.mp z)
      refine' K02.d__law_heard KX G ?a ?l ?c ?k
      (case a => k_is); (case l => k_is); (case c => k_is); (case k => k_is)
