import PyProof.Rows.All
import Wide.All
import OpenK.AllK
import Wide.FinOn
import KE.KExcSuper
import KE.KExcInit
import KE.KExcIs
import HandS.ForExc
import HandS.ExcInit
import HandS.ExcIs
import HandS.Nested
import HandS.ForMost
import PyProof.ReprRoads
import PyProof.ReprText
import PyProof.StrLawsRepr
import PyProof.FitsInt
import HandS.HeadHook3
import HandS.ExcValue
import HandS.HotCalls
import HandS.TryMany
import HandS.Defaults
import HandS.HeadEnd
import HandS.Wide
import HandS.Keys
import HandS.IsInst
import HandS.WordsExc
import HandS.Walk
import HandS.Iter
import HandS.Evl
import KE.KStateDown
import HandS.Head0
import HandS.Head1
import HandS.Head2
import PySem.Challenge.RW_mapsizes_k01_exceptions
set_option Elab.async false
set_option linter.all false
set_option maxRecDepth 100000
set_option maxHeartbeats 0
/-! X1: own exceptions whose __init__ is `super().__init__(text)` and stores of its parameters, by hand over the layer. -/
namespace EX
open PySem PySem.Spec PySem.W PySem.Calls PyProof.Rows L2 NdefX Builtin.ObjectAttr

/-! ### what the written part says of such a class -/
/-- the class at C over the built-in B (mro: own classes, then bmB) -/
structure Cl (K : Frag) (C : Addr) (newId : String) (bmB : List Value) : Prop where
  xi : excInitIn K C bmB newId = true
  xo : excOver K C bmB = true
  sa : findIn K (.ref C) "__setattr__" = some (some (.builtin "object.__setattr__"))
  hd : hasDictIn K C = true
  kC : keepIn K (.ref C) = true
  exC : subIn K (.ref C) (.type "BaseException") = some true
  tyC : typeIn K (.ref C) = some (.type "type")

section
variable {X : Cx} {pins : List (Addr × Obj)} {σ : L2.St} {H : Hp} {s : Shared} {a C dx : Addr} {f : Str} {y : V} {u : Value} {fs : List (Str × V)} {Q : Unit → Shared → Prop} {E : Value → Shared → Prop} {A : Around}
  {B newId initId : String} {bmB : List Value}

/-- the heap behind the making of the dict of the exception at a, empty as yet -/
theorem inv_dict {hp : Heap} {g : Array GenState} {d : Drawn} {t tk : Nat} {os : OsState} {t1 : Addr} (I : Inv X pins σ H ⟨hp, g, d, t, os⟩) (e : H a = some (exo a C none))
    (ho : hp.get? a = some (excObj C t1 none .none)) :
    Inv X pins σ (upd (upd H hp.objs.size (exd hp.objs.size [])) a (exo a C (some hp.objs.size))) ⟨(hp.push (dictOf [] 0)).update a fun o => { o with dict := some hp.objs.size }, g, d, tk, os⟩ := by
  have hn : H hp.objs.size = none := I.hok.fresh (Nat.le_refl _)
  have hne : a ≠ hp.objs.size := Nat.ne_of_lt (Heap.lt_size ho)
  have k1 : ∀ b o, hp.get? b = some o → (hp.push (dictOf [] 0)).get? b = some o := fun b o q => Heap.get?_push_of_some _ q
  have n1 : (hp.push (dictOf [] 0)).Ns1 hp.objs.size (fun _ => none) := by
    refine Heap.Ns1.of_empty ?_
    exact ⟨_, #[], _, Heap.get?_push_at rfl rfl, rfl, fun e he => absurd he (by simp), fun _ => rfl⟩
  have I1 := I.laid (t' := t) (a := hp.objs.size) (o := exd hp.objs.size []) (h' := hp.push (dictOf [] 0)) k1 (Nat.le_refl _) (exd_ok n1 fun g => True.intro)
  have ea : upd H hp.objs.size (exd hp.objs.size []) a = some (exo a C none) := by rw [upd_ne hne]; exact e
  have hx : ((hp.push (dictOf [] 0)).update a fun o => { o with dict := some hp.objs.size }).get? a = some (excObj C t1 (some hp.objs.size) .none) := Heap.get?_update_self _ (k1 _ _ ho) rfl
  exact I1.write (t' := tk) (x := a) (e := a) (o := exo a C (some hp.objs.size)) (by rw [ea]; exact True.intro) (.inl rfl) (fun b o hb q => (Heap.get?_update_ne _ _ _ _ hb).trans q) ⟨_, hx⟩ (exo_ok hx)

/-- self.f = y where the exception has no dict yet -/
theorem set_new (SF : StoreFacts B bmB "object.__setattr__" "object") (T : Cl X.K C newId bmB) (I : Inv X pins σ H s) (e : H a = some (exo a C none)) (hno : findIn X.K (.ref C) f = some none) (ry : RelV y u)
    (h : ∀ dx s', H dx = none → dx ≠ a → Inv X pins σ (upd (upd (upd H dx (exd dx [])) a (exo a C (some dx))) dx (exd dx [(f, y)])) s' → Q () s') : wpAny (model X.prog X.w) A (setAttr (.ref a) f u) Q E s := by
  obtain ⟨t1, ho⟩ := exo_at I.hok e
  obtain ⟨hp, g, d, t, os⟩ := s
  obtain ⟨cd, hc, hd⟩ := any_some T.hd
  have hne : hp.objs.size ≠ a := (Nat.ne_of_lt (Heap.lt_size ho)).symm
  have J : InstAt hp a (excObj C t1 none .none) C none := ⟨ho, rfl, rfl, trivial⟩
  refine set_plain I.kIn J T.sa (osa_openX (r := none) SF (s := ⟨hp, g, d, t + 1, os⟩) I.kIn J T.xo (by unfold takerIn; rw [hno]; rfl) fun b => ?_)
  show wpAny _ _ (storeInOwnDict (.ref a) (.ref C) (.str f t) f u b) _ _ _
  have I2 := inv_dict (tk := t + 1) I e ho
  refine wpAny_bind (wpAny_pure (wpAny_bind (instanceDict_exc (s := ⟨hp, g, d, t + 1, os⟩) ho (looks_clsIn I.kIn hc) hd ?_)))
  show wpAny _ _ (storeInDict hp.objs.size (.str f t) f u) _ _ _
  have e2 : (upd (upd H hp.objs.size (exd hp.objs.size [])) a (exo a C (some hp.objs.size))) hp.objs.size = some (exd hp.objs.size []) := by rw [upd_ne hne, upd_same]
  obtain ⟨mA, hns, rel⟩ := exd_at I2.hok e2
  refine PySem.OEX.store_in_old (ns := []) hns (within_of rel) (Nat.zero_le _) fun h' tk' hn' hs => ?_
  refine h hp.objs.size _ (I.hok.fresh (Nat.le_refl _)) hne (I2.write (t' := tk') (x := hp.objs.size) (e := hp.objs.size) (by rw [e2]; exact True.intro) (.inl rfl) (fun b o hb q => (hs.2 b hb).trans q) ?_ (exd_ok hn' (relO_put (fs := []) ry rel)))
  obtain ⟨o, _, _, e', _⟩ := hn'
  exact ⟨o, e'⟩

/-- self.f = y, a further one -/
theorem set_old (SF : StoreFacts B bmB "object.__setattr__" "object") (T : Cl X.K C newId bmB) (I : Inv X pins σ H s) (e : H a = some (exo a C (some dx))) (ed : H dx = some (exd dx fs)) (hl : fs.length ≤ 900) (hno : findIn X.K (.ref C) f = some none) (ry : RelV y u)
    (h : ∀ s', Inv X pins σ (upd H dx (exd dx ((f, y) :: fs))) s' → Q () s') : wpAny (model X.prog X.w) A (setAttr (.ref a) f u) Q E s := by
  obtain ⟨t1, ho⟩ := exo_at I.hok e
  obtain ⟨mA, hns, rel⟩ := exd_at I.hok ed
  have hw := within_of rel
  obtain ⟨hp, g, d, t, os⟩ := s
  obtain ⟨cd, hc, hd⟩ := any_some T.hd
  obtain ⟨oD, _, _, hoD, _, _⟩ := hns.count hw
  have J : InstAt hp a (excObj C t1 (some dx) .none) C (some oD) := ⟨ho, rfl, rfl, hoD⟩
  refine set_plain I.kIn J T.sa (osa_openX (r := none) SF (s := ⟨hp, g, d, t + 1, os⟩) I.kIn J T.xo (by unfold takerIn; rw [hno]; rfl) fun b => ?_)
  show wpAny _ _ (storeInOwnDict (.ref a) (.ref C) (.str f t) f u b) _ _ _
  refine wpAny_bind (wpAny_pure (wpAny_bind (wpAny_bind (wpAny_loadPart ho (wpAny_bind ((looks_clsIn I.kIn hc).at ?_))))))
  rw [hd]
  refine wpAny_pure (a := some dx) ?_
  refine PySem.OEX.store_in_old hns hw (by rw [List.length_map]; omega) fun h' tk' hn' hs => ?_
  refine h _ (I.write (t' := tk') (x := dx) (e := dx) (o := exd dx ((f, y) :: fs)) (by rw [ed]; exact True.intro) (.inl rfl) (fun b o hb q => (hs.2 b hb).trans q) ?_ (exd_ok hn' (relO_put ry rel)))
  obtain ⟨o, _, _, e', _⟩ := hn'
  exact ⟨o, e'⟩
end

/-! ### super().__init__(text) -/
/-- what the written part says of a def that closes over __class__ -/
structure SupD (K : Frag) (C D cc cda : Addr) (prog : Program) (i : String) : Prop where
  cell : ∃ cl cld csl, K.lookup cc = some ⟨cl, cld, .cell (some (.ref D)), csl⟩
  cD : (clsIn K D).isSome = true
  sub : mroIn K C (.ref D) = some true
  code : ∃ ccl cdd vs ccs file tf, K.lookup cda = some ⟨ccl, cdd, .fields vs, ccs⟩ ∧ vs[2]? = some (.str file tf) ∧ ((prog.main.file : Str) == file) = true
  nsup : nsIn K mainGlobals "super" = some none
  ntp : nsIn K cStatics "thirdparty.any" = some none
  top : (prog.main.scope.names.lookup ("super" : Str)).isSome = false
  init : ks_superIn K C D "__init__" = some (some (.builtin i))

section
variable {X : Cx} {pins : List (Addr × Obj)} {σ : L2.St} {H : Hp} {s : Shared} {a C D cc cda fI : Addr} {B newId i : String} {bmB : List Value} {Q : Flow → Shared → Prop} {E : Value → Shared → Prop} {bodyc : List Stmt} {fd : FuncData} {ar : Arg}

theorem looks_mro {M : Model} {h : Heap} {K : Frag} {cd : ClassData} (Y : K.In h) (hc : clsIn K C = some cd) : Looks M h (mroOf (.ref C)) cd.mro := (looks_clsIn Y hc).andThen .now

theorem sup_stmt {text : Str} {p0 p1 p2 p3 p4 p5 : Pos} {j : Nat} (FB : ExcBaseFacts B newId i bmB) (KF : KxsFacts B i) (T : Cl X.K C newId bmB) (S : SupD X.K C D cc cda X.prog i) (hB : subIn X.K (.ref C) (.type B) = some true)
    (I : Inv X pins σ H s) (e : H a = some (exo a C none)) (h0 : σ[0]? = some (some (.ref a))) (hN : X.N[0]? = some ar.arg)
    (hks : X.env.kindOf "super" = some .globalImplicit) (hkc : X.env.kindOf "__class__" = some .free) (hka : X.env.kindOf ar.arg = some .local) (hcl : X.env.cells.lookup ("__class__" : Str) = some cc)
    (hfu : X.env.func = some fI) (hf : ∃ o, X.K.lookup fI = some o ∧ o.data = .func fd) (hp : (fd.params.posonlyargs ++ fd.params.args).head? = some ar) (hco : X.env.code = .ref cda) (hi : interactive X.env = false)
    (hgo : ∀ s', Inv X pins σ H s' → Q .next s') (hk : X.env.scope.kind = .function) {pl : Sem Bool}
    (he : eval (.Call (.Attribute (.Call (.Name "super" p0) [] [] p1) "__init__" p2) [.Constant (.str text) j p3] [] p4) X.env = (do
      let ov ← attributeBase (.Call (.Name "super" p0) [] [] p1) "__init__" X.env (eval (.Call (.Name "super" p0) [] [] p1) X.env)
      standAt p2.atName
      let (f, first) ← holding [ov] (getMethod ov "__init__" pl)
      callWith p4 f first (backTo p4 (starEach [.Constant (.str text) j p3] X.env)) []))
    (hs : swapsWith (.Call (.Attribute (.Call (.Name "super" p0) [] [] p1) "__init__" p2) [.Constant (.str text) j p3] [] p4) none p5.line X.env = pure false) :
    _root_.PySem.wpAt (model X.prog X.w) X.A (.func bodyc X.env) (exec (.Expr (.Call (.Attribute (.Call (.Name "super" p0) [] [] p1) "__init__" p2) [.Constant (.str text) j p3] [] p4) p5) X.env) Q E s := by
  obtain ⟨cl, cld, csl, hcell⟩ := S.cell
  obtain ⟨ccl, cdd, vs, ccs, file, tf, hcode, hvs, hfile⟩ := S.code
  obtain ⟨of, hfl, hfd⟩ := hf
  obtain ⟨cdD, hD⟩ := Option.isSome_iff_exists.mp S.cD
  have Y : X.K.In s.heap := I.kIn
  obtain ⟨t1, ho⟩ := exo_at I.hok e
  obtain ⟨m, hns, hl⟩ := id I.loc
  obtain ⟨cd, hcd, _⟩ := any_some T.hd
  have vs0 : Vis X.env.scope ar.arg := .inl hka
  obtain ⟨u0, r0, l0⟩ := hl 0 ar.arg (.ref a) hN h0 vs0
  have hm0 : m ar.arg = some (.ref a) := by
    have r0' : u0 = Value.ref a := r0
    rcases l0 with ⟨_, z⟩ | ⟨z, _⟩
    · rw [z, r0']
    · rw [hka] at z
      rcases z with z | z <;> cases z
  obtain ⟨mb, hb1, hb2⟩ := I.mod.blt
  obtain ⟨oD, hD1, hD2⟩ : ∃ oD, s.heap.get? D = some oD ∧ oD.data = .cls cdD := by
    unfold clsIn at hD
    split at hD
    · rename_i c d cd' sl ho
      cases hD
      exact ⟨_, Y _ _ ho, rfl⟩
    · cases hD
  have J : InstAt s.heap a (excObj C t1 none .none) C none := ⟨ho, rfl, rfl, trivial⟩
  refine ks_wpAt_Expr_any (prog := X.prog) (w := X.w) (ks_wpAt_MethodCall ?_ he) hi hs
  refine ks_wpAt_super_base (prog := X.prog) (w := X.w) (env := X.env) hks hkc rfl hfu (Y _ _ hfl) hfd hp hco (Y _ _ hcode) rfl hvs hfile S.top ?_
  refine ks_loadName_global hk hks (loadGlobal_builtin (v := .type "super") ?_ (mg_none_of I.mod.kin I.mod.glob S.nsup) ?_ ((hb2 _ (by decide)).trans (by decide +kernel)) ⟨rfl, ?_⟩)
  · rw [I.ok.glob]
    exact I.mod.glob.keeps I.bk
  · rw [I.ok.blt]
    exact hb1.keeps I.bk
  refine wpAny_loadName_free hk hkc hcl ⟨_, Y _ _ hcell, rfl⟩ ?_
  refine wpAny_loadName_local hk hka hns hm0 ?_
  refine ks_wpAny_isType_cls (g := s.gens) (d := s.drawn) (t := s.toks) (os := s.os) hD1 hD2 ⟨rfl, ?_⟩
  refine ks_wpAny_call_super (g := s.gens) (d := s.drawn) (t := s.toks) (os := s.os) hD1 hD2 J.at_ J.cls (fun c z => by cases z) (looks_mroIn Y S.sub) (fun h' e' k => ?_)
  have I1 : Inv X pins σ H ⟨h', s.gens, s.drawn, s.toks, s.os⟩ := I.kept (t' := s.toks) (h' := h') k
  have Y1 : X.K.In h' := I1.kIn
  have hmro : alongIn X.K "__init__" ((cd.mro.dropWhile (· != .ref D)).drop 1) = some (some (.builtin i)) := by
    have z := S.init
    unfold ks_superIn at z
    rw [hcd] at z
    exact z
  have J1 : InstAt h' a (excObj C t1 none .none) C none := ⟨k _ _ ho, rfl, rfl, trivial⟩
  refine kxs_getMethod KF e' (looks_opaque Y1 S.ntp) (looks_mro Y1 hcd) rfl Y1 hmro (J1.type.andThen (looks_subIn Y1 hB)) (ks_ne Y1 J1 hcd) (by decide) ?_
  have I2 : Inv X pins σ H ⟨h'.push (kxs_mw i a), s.gens, s.drawn, s.toks + 1, s.os⟩ := I1.kept (t' := s.toks + 1) (h' := h'.push (kxs_mw i a)) fun b o q => Heap.get?_push_of_some _ q
  have hu : (h'.push (kxs_mw i a)).get? h'.objs.size = some (kxs_mw i a) := Heap.get?_push_at rfl rfl
  refine kxs_callWith (i := i) (x := a) (by rfl) (evalArgs_plain (Calls.spliced_cons (Calls.Constant_str (pos := p3) (k := j) (Calls.spliced_nil ⟨hu, ?_⟩))))
  have I3 : Inv X pins σ H ⟨h'.push (kxs_mw i a), s.gens, s.drawn, s.toks + 1 + 1, s.os⟩ := I2.tok _
  obtain ⟨nm, N', qn, bs, bm, hdct, sn, sub, ab, col, dd, k0, k1, k2, k3, k5, hC, hT⟩ := excInit_of I3.kIn T.xi
  obtain ⟨t2, ho2⟩ := exo_at I3.hok e
  refine wpAny_call (codeAny_of_tree ?_)
  show wpAny _ X.A.in1 (callAny (.ref h'.objs.size) ⟨[.str text (s.toks + 1)], []⟩) _ _ _
  simp only [callAny]
  refine wpAny_bind (wpAny_load hu ?_)
  simp only [kxs_mw, show (Value.type "method-wrapper" == Value.type "method" || Value.type "method-wrapper" == Value.type "builtin_function_or_method" || Value.type "method-wrapper" == Value.type "method-wrapper") = true by decide, if_true]
  refine KFB.if_so (by decide) ?_
  refine wpAny_bind (check_bound_init FB.toExcCallFacts hC ho2 rfl ?_)
  refine wpAny_bind (wpAny_pure (wpAny_pure ?_))
  refine ⟨plainId_quiet FB.init.plain _, codeAny_builtin FB.initEntry ?_⟩
  refine exc_init_tree (cls := .ref C) (t0 := t2) (dv := none) (c2 := .none) (c3 := .none) (b4 := .bool false) ho2 (by show 1 ≤ sizeLine; rw [sizeLine_eq]; omega) fun h3 k3 e3 _ => ?_
  have I4 := I3.write (h' := h3) (t' := s.toks + 1 + 1) (x := a) (e := a) (o := exo a C none) (by rw [e]; exact True.intro) (.inl rfl) k3 ⟨_, e3⟩ (exo_ok e3)
  have eu : upd H a (exo a C none) = H := by
    funext b
    by_cases hb : b = a
    · rw [hb, upd_same, e]
    · rw [upd_ne hb]
  rw [eu] at I4
  exact hgo _ I4
end

/-! ### the def: super().__init__(text), then the rest -/
def supBody (text : Str) (p0 p1 p2 p3 p4 p5 : Pos) (j : Nat) (rest : List Stmt) : List Stmt :=
  .Expr (.Call (.Attribute (.Call (.Name "super" p0) [] [] p1) "__init__" p2) [.Constant (.str text) j p3] [] p4) p5 :: rest
/-- an exception of the class at C stands at a, its fields fs (no dict where there are none) -/
def IsX (H : Hp) (a C : Addr) (fs : List (Str × V)) : Prop := (fs = [] ∧ H a = some (exo a C none)) ∨ ∃ dx, H a = some (exo a C (some dx)) ∧ H dx = some (exd dx fs)
theorem IsX.same {H H' : Hp} {a C : Addr} {fs : List (Str × V)} (e : Same H H') (x : IsX H a C fs) : IsX H' a C fs := by
  rcases x with ⟨z, x⟩ | ⟨dx, x, y⟩
  · exact .inl ⟨z, e _ _ x⟩
  · exact .inr ⟨dx, e _ _ x, e _ _ y⟩
/-- what __init__ promises: g: the fields by the arguments -/
def spX (C : Addr) (n : Nat) (g : List V → List (Str × V)) : Sp := fun vs H Q _ => ∃ (a : Addr) (ws : List V), vs = .ref a :: ws ∧ ws.length = n ∧ H a = some (exo a C none) ∧
  ∀ H', (∀ b o, b ≠ a → H b = some o → H' b = some o) → IsX H' a C (g ws) → Q .non H'
section
variable {CX : CXT} {P : Program} {w : World} {K : Frag} {mg : Str → Option Value} {base : Heap} {N ps : List Str} {f C D cc cda : Addr} {k n : Nat} {g : List V → List (Str × V)} {name qual : Str} {params : Arguments} {rest : List Stmt} {scope : Scope}
  {doc pm ctv oc : Value} {od : Option Addr} {osl : Array (Option Value)} {B newId i : String} {bmB : List Value} {text : Str} {p0 p1 p2 p3 p4 p5 : Pos} {j : Nat}
abbrev nfX (name qual : Str) (params : Arguments) (body : List Stmt) (scope : Scope) (cc cda : Addr) : NF := ⟨name, qual, params, body, scope, [("__class__", cc)], cda⟩
/-- the context of the body -/
abbrev cxX (CX : CXT) (P : Program) (w : World) (K : Frag) (mg : Str → Option Value) (base : Heap) (N : List Str) (F : NF) (f : Addr) (A : Around) (outer : List Env) (s : Shared) (H : Hp) (E : XK) : Cx := ncx CX P w K mg base N F f A outer s H E

theorem look1 {x y : Str} {c c' : Addr} (h : ([(x, c)] : List (Str × Addr)).lookup y = some c') : y = x ∧ c' = c := by
  by_cases e : y = x
  · subst e
    rw [List.lookup_cons_self] at h
    exact ⟨rfl, (Option.some.inj h).symm⟩
  · have q : (y == x) = false := by simpa using e
    simp [List.lookup, q] at h
theorem init_of {ar : Arg} (FB : ExcBaseFacts B newId i bmB) (KF : KxsFacts B i) (T : Cl K C newId bmB) (S : SupD K C D cc cda P i) (hB : subIn K (.ref C) (.type B) = some true)
    (lk : K.lookup f = some ⟨oc, od, .func ((nfX name qual params (supBody text p0 p1 p2 p3 p4 p5 j rest) scope cc cda).fd doc pm ctv), osl⟩) (hcd : codeIn K (.ref cda) qual = true)
    (NS : NScope N ps ["__class__"] scope) (hN : N[0]? = some ar.arg) (hps : ps.length = n + 1) (hp : (params.posonlyargs ++ params.args).head? = some ar)
    (hks : scope.names.lookup ("super" : Str) = some .globalImplicit) (hka : scope.names.lookup ar.arg = some .local)
    (he : ∀ L f, ∃ pl : Sem Bool, eval (.Call (.Attribute (.Call (.Name "super" p0) [] [] p1) "__init__" p2) [.Constant (.str text) j p3] [] p4) (envF (nfX name qual params (supBody text p0 p1 p2 p3 p4 p5 j rest) scope cc cda) f L) = (do
      let ov ← attributeBase (.Call (.Name "super" p0) [] [] p1) "__init__" (envF (nfX name qual params (supBody text p0 p1 p2 p3 p4 p5 j rest) scope cc cda) f L) (eval (.Call (.Name "super" p0) [] [] p1) (envF (nfX name qual params (supBody text p0 p1 p2 p3 p4 p5 j rest) scope cc cda) f L))
      standAt p2.atName
      let (fv, first) ← holding [ov] (getMethod ov "__init__" pl)
      callWith p4 fv first (backTo p4 (starEach [.Constant (.str text) j p3] (envF (nfX name qual params (supBody text p0 p1 p2 p3 p4 p5 j rest) scope cc cda) f L))) []))
    (hs : ∀ L f, swapsWith (.Call (.Attribute (.Call (.Name "super" p0) [] [] p1) "__init__" p2) [.Constant (.str text) j p3] [] p4) none p5.line (envF (nfX name qual params (supBody text p0 p1 p2 p3 p4 p5 j rest) scope cc cda) f L) = pure false)
    (hi : ∀ L f, interactive (envF (nfX name qual params (supBody text p0 p1 p2 p3 p4 p5 j rest) scope cc cda) f L) = false)
    (hb : ∀ (doc pm ctv : Value) (us : List Value), us.length = ps.length → bindArgs ((nfX name qual params (supBody text p0 p1 p2 p3 p4 p5 j rest) scope cc cda).fd doc pm ctv) ⟨us, []⟩ = pure (ps.zip us))
    (hbody : ∀ (A : Around) (outer : List Env) (s : Shared) (H : Hp) (a : Addr) (ws : List V) (Q : VK) (E : XK), Room k (A.deeper (envF (nfX name qual params (supBody text p0 p1 p2 p3 p4 p5 j rest) scope cc cda) f s.heap.objs.size)) → ws.length = n → H a = some (exo a C none) →
      (∀ H', (∀ b o, b ≠ a → H b = some o → H' b = some o) → IsX H' a C (g ws) → Q .non H') →
      ∃ t, PSs (cxX CX P w K mg base N (nfX name qual params (supBody text p0 p1 p2 p3 p4 p5 j rest) scope cc cda) f A outer s H E) rest t ∧ t { nx := fun _ H' => Q .non H', rt := Q } (startF N (.ref a :: ws) [none]) H) :
    FnOk P w K mg base CX (k + 1) f ((nfX name qual params (supBody text p0 p1 p2 p3 p4 p5 j rest) scope cc cda).fd doc pm ctv) ps (spX C n g) := by
  refine ⟨fun vs H Q E h => ?_, fun A outer s H args us vs Q E hr e0 hbind r hsp => ?_⟩
  · obtain ⟨a, ws, rfl, hl, _⟩ := h
    rw [hps, List.length_cons, hl]
  obtain ⟨a, ws, rfl, hl, ha, hq⟩ := hsp
  have KX : K.In s.heap := e0.mod.kin.keeps fun b o e => (e0.bs b o e).1
  have lim : s.heap.NoLimit := e0.mod.nolimit.keeps fun b o e => (e0.bs b o e).1
  have hlen : (V.ref a :: ws).length = ps.length := by rw [hps, List.length_cons, hl]
  have hbm : ∀ c o, K.lookup c = some o → H c = none := fun c o e => (e0.bs c o (e0.mod.kin c o e)).2
  obtain ⟨cl, cld, csl, hcell⟩ := S.cell
  have CA : CellsAt [("__class__", cc)] ["__class__"] [none] s.heap H := by
    refine ⟨rfl, fun y c z => ?_, fun x y c z1 z2 => (look1 z1).1.trans (look1 z2).1.symm, fun q y hy => ?_⟩
    · rw [(look1 z).2]
      exact ⟨hbm _ _ hcell, _, _, KX _ _ hcell, rfl⟩
    · cases q with
      | zero =>
        have hy' : some ("__class__" : Str) = some y := hy
        cases hy'
        exact ⟨cc, by rfl, fun v z => by cases z⟩
      | succ q => cases hy
  refine codeAny_call_function hr.depth (KX _ _ lk) rfl NS.co NS.gen rfl (codeRec_of KX hcd) (hbind _ _ _ _ ?_)
  have hr2 : us.length = ps.length := by rw [← r.length]; exact hlen
  refine wpAny_newFunctionEnv NS.nocell (fun ⟨nn, _⟩ hy => NS.par nn (List.of_mem_zip hy).1) (fun h₁ hns hsb => ⟨lim.fresh _ hsb, ?_⟩) NS.kind
  show codeAny _ _ (.func (supBody text p0 p1 p2 p3 p4 p5 j rest) (envF (nfX name qual params (supBody text p0 p1 p2 p3 p4 p5 j rest) scope cc cda) f s.heap.objs.size)) _ _
  have kp : ∀ b o, s.heap.get? b = some o → h₁.get? b = some o := fun b o e => hsb.extBut b o (Nat.ne_of_lt (Heap.lt_size e)) (Heap.get?_push_of_some _ e)
  obtain ⟨t, ht, hq2⟩ := hbody A outer s H a ws Q E (hr.deeper _) hl ha hq
  have I : Inv (cxX CX P w K mg base N (nfX name qual params (supBody text p0 p1 p2 p3 p4 p5 j rest) scope cc cda) f A outer s H E) [] (startF N (.ref a :: ws) [none]) H { s with heap := h₁, toks := s.toks + (ps.zip us).length } := inv_startN NS hr.hd e0 hlen r CA hns kp
  refine ks_codeAny_funcAt (ks_wpAt_execs_cons (sup_stmt (fd := (nfX name qual params (supBody text p0 p1 p2 p3 p4 p5 j rest) scope cc cda).fd doc pm ctv) (ar := ar) (fI := f) (cc := cc) (cda := cda) FB KF T S hB I ha (by rfl) hN hks (NS.frk _ List.mem_cons_self) hka (by rfl) rfl ⟨_, lk, rfl⟩ hp rfl (hi _ _) (fun s' I' => ?_) NS.kind (he _ _).choose_spec (hs _ _)))
  refine wpAt_of_wpAny (wpAny_mono (ht.run [] _ (startF N (.ref a :: ws) [none]) H _ I' hq2) (fun fl s' hs => ?_) fun e s' hs => hs)
  have fin : ∀ {σ' : L2.St} {H' : Hp} {v : V} {u : Value}, Inv (cxX CX P w K mg base N (nfX name qual params (supBody text p0 p1 p2 p3 p4 p5 j rest) scope cc cda) f A outer s H E) [] σ' H' s' → L2.RelV v u → Q v H' → CE outer P w H s Q u s' :=
    fun {σ' H' v u} J rv q => ⟨v, H', J.os, J.bare, J.base, J.hok, rv, q⟩
  cases fl with
  | ret u =>
    obtain ⟨v, σ', H', J, rv, q⟩ := hs
    exact fin J rv q
  | next =>
    obtain ⟨σ', H', J, q⟩ := hs
    exact fin (v := V.non) (u := Value.none) J rfl q
  | brk =>
    obtain ⟨_, _, _, q⟩ := hs
    exact False.elim q
  | cont =>
    obtain ⟨_, _, _, q⟩ := hs
    exact False.elim q
end

/-! ### C(e, .., k = v): the same with keywords -/
section
variable {prog : Program} {w : World} {A : Around} {E : Value → Shared → Prop} {R : Result → Shared → Prop} {h : Heap} {g : Array GenState} {d : Drawn} {t : Nat} {os : OsState}
  {nm q : Str} {C N fI : Addr} {bs bm bmB rest : List Value} {hdct : Bool} {sn : List Str} {sub : List Value} {ab : Bool} {col : Option Bool} {dd : Option Addr} {k0 k1 k2 k3 k5 : Option Value} {B newId initId : String} {kw : List (Str × Value)}
theorem chk_kw {M : Model} {Q : Unit → Shared → Prop} (FB : ExcBaseFacts B newId initId bmB) (hm : ∀ T : String, bm.contains (.type T) = bmB.contains (.type T))
    (oC : h.get? C = some (excClassObj nm q C N bs bm hdct sn sub ab col dd k0 k1 k2 k3 k5 newId)) (z : Q () ⟨h, g, d, t, os⟩) : wpAny M A (checkBuiltinCall newId ⟨.ref C :: rest, kw⟩) Q E ⟨h, g, d, t, os⟩ := by
  have c1 : (Value.ref C :: bm).contains (.type B) = true := by rw [List.contains_cons, hm, FB.hasB, Bool.or_true]
  have c2 := FB.noStar
  simp only [checkBuiltinCall, FB.newKind, FB.newSplit, FB.newRow]
  repeat (first | refine wpAny_loadPart_at oC ?_ | (refine wpAny_isSubtype_exc oC ?_; rw [c1]) | refine wpAny_staticBase_exc oC ?_ | refine wpAny_madeBy_exc oC ?_ | simp only [bne_self_eq_false, Bool.false_eq_true, if_false] | wp_step)
  exact z
theorem new_kw (FB : ExcBaseFacts B newId initId bmB) (hm : ∀ T : String, bm.contains (.type T) = bmB.contains (.type T)) (oC : h.get? C = some (excClassObj nm q C N bs bm hdct sn sub ab col dd k0 k1 k2 k3 k5 newId))
    (z : R (.ok (.ret (.ref (h.objs.size + 1)))) ⟨(h.push (excTup rest)).push (excObj C h.objs.size none .none), g, d, t, os⟩) (hz : rest.length ≤ sizeLine) :
    codeAny (model prog w) A (.builtin newId ⟨.ref C :: rest, kw⟩) R ⟨h, g, d, t, os⟩ := by
  have c0 := FB.ends
  have c1 : (Value.ref C :: bm).contains (.type B) = true := by rw [List.contains_cons, hm, FB.hasB, Bool.or_true]
  have c2 : (Value.ref C :: bm).contains (.type "AttributeError") = false := by rw [List.contains_cons, hm, FB.noAttr]; rfl
  have c3 : (Value.ref C :: bm).contains (.type "NameError") = false := by rw [List.contains_cons, hm, FB.noName]; rfl
  refine codeAny_builtinAt FB.entry ?_
  unfold Builtin.«BaseException.__new__»
  refine _root_.PySem.wpAt_bind ?_
  show _root_.PySem.wpAt _ _ _ (stack >>= _) _ _ _
  refine _root_.PySem.wpAt_bind (_root_.PySem.wpAt_stack fun p below => _root_.PySem.wpAt_of_wpAny ?_)
  wp_walk
  refine _root_.PySem.wpAt_of_wpAny ?_
  rw [FB.owner]
  repeat (first | with_reducible refine wpAny_madeHere_exc FB.canon oC ?_ | with_reducible refine wpAny_loadPart_at oC ?_ | (with_reducible refine wpAny_isSubtype_exc oC ?_; first | rw [c1] | rw [c2] | rw [c3]) | wp_step)
  show R _ _
  rw [Heap.size_push]
  exact z
theorem tcall_kw {Q : Fin → Shared → Prop} (FB : ExcBaseFacts B newId initId bmB) (hm : ∀ T : String, bm.contains (.type T) = bmB.contains (.type T)) (oC : h.get? C = some (excClassObj nm q C N bs bm hdct sn sub ab col dd k0 k1 k2 k3 k5 newId))
    (hi : Looks (model prog w) h (typeLookup (.ref C) "__init__") (some (.ref fI))) (hb : ∀ self, Looks (model prog w) h (bindSpecial (.ref fI) self) (.ref fI, [self])) (hz : rest.length ≤ sizeLine)
    (z : codeAny (model prog w) A (.call (.ref fI) ⟨.ref (h.objs.size + 1) :: rest, kw⟩)
      (fun r s' => match r with | .ok (.ret v) => v = .none ∧ Q (.done (.ret (.ref (h.objs.size + 1)))) s' | .ok _ => False | .error e => E e s') ⟨(h.push (excTup rest)).push (excObj C h.objs.size none .none), g, d, t, os⟩) :
    wpAny (model prog w) A (Builtin.«type.__call__» ⟨.ref C :: rest, kw⟩) Q E ⟨h, g, d, t, os⟩ := by
  repeat (first | with_reducible refine wpAny_loadPart_at oC ?_ | with_reducible refine wpAny_madeBy_exc oC ?_ | wp_step)
  refine codeAny_call_builtin_code (Code.quiet_builtin _ FB.quiet) (chk_kw FB hm oC ?_)
  refine new_kw FB hm oC ?_ hz
  show wpAny _ _ _ _ _ _
  have up : ∀ b o, h.get? b = some o → ((h.push (excTup rest)).push (excObj C h.objs.size none .none)).get? b = some o := fun b o e => Heap.get?_push_of_some _ (Heap.get?_push_of_some _ e)
  have oC1 := up _ _ oC
  have oe : ((h.push (excTup rest)).push (excObj C h.objs.size none .none)).get? (h.objs.size + 1) = some (excObj C h.objs.size none .none) := by heap_get
  have cC : (Value.ref C :: bm).contains (.ref C) = true := by simp
  have i1 := hi.keeps up
  have b1 := (hb (.ref (h.objs.size + 1))).keeps up
  unfold isInstance
  repeat (first | with_reducible refine wpAny_loadPart_at oe ?_ | (with_reducible refine wpAny_isSubtype_exc oC1 ?_; rw [cC]) | wp_step)
  show wpAny _ _ (typeLookup (.ref C) _) _ _ _
  refine i1.at ?_
  refine wpAny_holding (wpAny_bind (b1.at ?_))
  refine wpAny_bind (wpAny_call (codeAny_mono z fun r s' y => ?_))
  rcases r with e | (v | _ | _ | _) <;> first | exact y | exact y.elim | skip
  obtain ⟨rfl, y⟩ := y
  first
    | exact wpAny_pure (wpAny_pure y)
    | (wp_walk; exact y)
end

section
variable {prog : Program} {w : World} {A : Around} {E : Value → Shared → Prop} {R : Result → Shared → Prop} {h : Heap} {g : Array GenState} {d : Drawn} {t : Nat} {os : OsState}
  {nm q : Str} {C N fI : Addr} {bs bm bmB rest : List Value} {hdct : Bool} {sn : List Str} {sub : List Value} {ab : Bool} {col : Option Bool} {dd : Option Addr} {k0 k1 k2 k3 k5 : Option Value} {B newId initId : String} {kw : List (Str × Value)}
theorem chk_type_kw {M : Model} {Q : Unit → Shared → Prop} (oC : h.get? C = some (excClassObj nm q C N bs bm hdct sn sub ab col dd k0 k1 k2 k3 k5 newId))
    (z : Q () ⟨h, g, d, t, os⟩) : wpAny M A (checkBuiltinCall "type.__call__" ⟨.ref C :: rest, kw⟩) Q E ⟨h, g, d, t, os⟩ := by
  have c3 := tc_sub
  have cT : (⟨h, g, d, t, os⟩ : Shared).TypeIs (.ref C) "type" := ⟨_, oC, rfl⟩
  simp only [checkBuiltinCall, tc_kind, tc_split]
  repeat (any_goals (first | assumption | with_reducible refine wpAny_loadPart_at oC ?_ | with_reducible refine wpAny_onRaise ?_ | with_reducible refine wpAny_map ?_ | wp_step))
theorem call_kw (FB : ExcBaseFacts B newId initId bmB) (hm : ∀ T : String, bm.contains (.type T) = bmB.contains (.type T)) (oC : h.get? C = some (excClassObj nm q C N bs bm hdct sn sub ab col dd k0 k1 k2 k3 k5 newId))
    (hi : Looks (model prog w) h (typeLookup (.ref C) "__init__") (some (.ref fI))) (hb : ∀ self, Looks (model prog w) h (bindSpecial (.ref fI) self) (.ref fI, [self])) (hz : rest.length ≤ sizeLine)
    (z : codeAny (model prog w) (A.under (.builtin "type.__call__" ⟨.ref C :: rest, kw⟩)) (.call (.ref fI) ⟨.ref (h.objs.size + 1) :: rest, kw⟩) (InitBack (h.objs.size + 1) R)
      ⟨(h.push (excTup rest)).push (excObj C h.objs.size none .none), g, d, t, os⟩) : codeAny (model prog w) A (.call (.ref C) ⟨rest, kw⟩) R ⟨h, g, d, t, os⟩ := by
  have c1 := tc_lookup
  have c2 := tc_bind (.ref C)
  have cT : (⟨h, g, d, t, os⟩ : Shared).TypeIs (.ref C) "type" := ⟨_, oC, rfl⟩
  refine codeAny_of_tree ?_
  show wpAny _ _ (callAny (.ref C) _) _ _ _
  repeat (any_goals (first | assumption | with_reducible refine wpAny_loadPart_at oC ?_ | wp_step))
  refine ⟨rfl, ?_⟩
  refine codeAny_call_builtin_at (Code.quiet_builtin _ (by decide +kernel)) entry_typeCall (chk_type_kw oC (tcall_kw FB hm oC hi hb hz ?_))
  refine codeAny_mono z fun r s' y => ?_
  rcases r with e | (v | _ | _ | _) <;> exact y
end

/-! ### the rules: C(e, ..), C(), C(k = v, ..) as values -/
/-- the reading -/
def tMkX (C : Addr) (n : Nat) (g : List V → List (Str × V)) (ta : TA) : TE := fun σ H Q => ta σ H fun vs H1 => vs.length = n ∧ ∀ a H2, H1 a = none → Same H1 H2 → IsX H2 a C (g vs) → Q (.ref a) H2
section
variable {X : Cx} {CX : CXT} {pins : List (Addr × Obj)} {σ : L2.St} {H : Hp} {s : Shared} {C fI : Addr} {B newId initId : String} {bmB : List Value} {k n : Nat} {g : List V → List (Str × V)} {fd : FuncData} {ps ks : List Str} {x : Str} {p pos : Pos} {e : Expr} {es : List Expr} {kws : List Keyword} {ta tk : TA}
theorem run_mkx {Q : VK} {us : List Value} {kw : List (Str × Value)} {us' : List Value} {vs' : List V} (FB : ExcBaseFacts B newId initId bmB) (T : Cl X.K C newId bmB) (iC : findIn X.K (.ref C) "__init__" = some (some (.ref fI))) (tI : isFn X.K (.ref fI) = true)
    (F1 : FnOk X.prog X.w X.K X.mg X.base CX k fI fd ps (spX C n g)) (hr : Room (k + 1) X.A) (hx : Passes CX X (fun _ _ _ => False)) (I : Inv X pins σ H s)
    (hb : ∀ (s' : Shared) (a : Addr), X.K.In s'.heap → BindsTo s' fd ⟨.ref a :: us, kw⟩ (ps.zip (.ref a :: us'))) (rv : Vals vs' us') (hn : vs'.length = n) (hz : us.length ≤ sizeLine)
    (h : ∀ a H2, H a = none → Same H H2 → IsX H2 a C (g vs') → Q (.ref a) H2) : wpAny (model X.prog X.w) X.A (call (.ref C) us kw) (EP X pins σ Q) X.xe s := by
  obtain ⟨nm, N', qn, bs, bm, hdct, sn, sub, ab, col, dd, k0, k1, k2, k3, k5, hC, hT⟩ := excInit_of I.kIn T.xi
  obtain ⟨oI, hoI, hcI⟩ : ∃ oI, s.heap.get? fI = some oI ∧ oI.cls = .type "function" := by
    obtain ⟨o, ho, hc⟩ := Option.map_eq_some_iff.mp (show (X.K.lookup fI).map (·.cls) = some (.type "function") from beq_iff_eq.mp tI)
    exact ⟨o, I.kIn _ _ ho, hc⟩
  have hi' : Looks (model X.prog X.w) s.heap (typeLookup (.ref C) "__init__") (some (.ref fI)) := looks_findIn I.kIn iC
  obtain ⟨hp, gg, dr, tk, os⟩ := s
  have hsz : hp.objs.size ≤ hp.objs.size + 1 := Nat.le_succ _
  have hna : H (hp.objs.size + 1) = none := I.hok.fresh hsz
  have kk : ∀ b o, hp.get? b = some o → ((hp.push (excTup us)).push (excObj C hp.objs.size none .none)).get? b = some o := fun b o e => Heap.get?_push_of_some _ (Heap.get?_push_of_some _ e)
  have hget : ((hp.push (excTup us)).push (excObj C hp.objs.size none .none)).get? (hp.objs.size + 1) = some (excObj C hp.objs.size none .none) := by heap_get
  have I2 : Inv X pins σ (upd H (hp.objs.size + 1) (exo (hp.objs.size + 1) C none)) ⟨(hp.push (excTup us)).push (excObj C hp.objs.size none .none), gg, dr, tk, os⟩ :=
    I.laid (t' := tk) (a := hp.objs.size + 1) (o := exo (hp.objs.size + 1) C none) (h' := (hp.push (excTup us)).push (excObj C hp.objs.size none .none)) kk hsz (exo_ok hget)
  have r2 : Vals (V.ref (hp.objs.size + 1) :: vs') (Value.ref (hp.objs.size + 1) :: us') := .cons rfl rv
  have hq : spX C n g (V.ref (hp.objs.size + 1) :: vs') (upd H (hp.objs.size + 1) (exo (hp.objs.size + 1) C none)) (fun v H2 => v = .non ∧ Q (.ref (hp.objs.size + 1)) H2) (fun _ _ _ => False) := by
    refine ⟨_, vs', rfl, hn, upd_same, fun H' ext ix => ⟨rfl, h _ H' hna (fun b o eb => ext b o (ne_of_none eb hna) ?_) ix⟩⟩
    rw [upd_ne (ne_of_none eb hna)]
    exact eb
  refine wpAny_call (call_kw FB hT hC hi' (fun self => exc_bind hoI hcI self) hz (codeAny_mono (F1.run _ X.stack _ _ ⟨Value.ref (hp.objs.size + 1) :: us, kw⟩ (Value.ref (hp.objs.size + 1) :: us') _ _ (fun _ _ _ => False) (hr.make C us kw)
    (I2.env0.make C us kw) (hb _ _ I2.kIn) r2 hq) fun r s' hq' => ?_))
  cases r with
  | error er => exact hx pins σ _ _ er s' I2 hq'
  | ok fl =>
    cases fl with
    | ret u =>
      obtain ⟨v, H', I3, rv, ev, q3⟩ := I2.after hq'
      subst ev
      exact ⟨rv, ⟨V.ref (hp.objs.size + 1), H', I3, rfl, q3⟩⟩
    | next => exact False.elim hq'
    | brk => exact False.elim hq'
    | cont => exact False.elim hq'
theorem pe_mkx (FB : ExcBaseFacts B newId initId bmB) (T : Cl X.K C newId bmB) (iC : findIn X.K (.ref C) "__init__" = some (some (.ref fI))) (tI : isFn X.K (.ref fI) = true)
    (F1 : FnOk X.prog X.w X.K X.mg X.base CX k fI fd ps (spX C n g)) (hb : Binds X.K fd ps []) (hps : ps.length = n + 1) (hr : Room (k + 1) X.A) (hx : Passes CX X (fun _ _ _ => False)) (hg : Gl X x) (hm : X.mg x = some (.ref C)) (hn : n ≤ 1000)
    (ha : PA X (e :: es) ta) (hdb : (x == ("__debug__" : Str)) = false := by decide) (he : starEach (e :: es) X.env = (false, eval e X.env) :: starEach es X.env := by rfl) (hpl : (backTo pos (starEach es X.env)).any (·.1) = false := by rfl) :
    PE X (.Call (.Name x p) (e :: es) [] pos) (tMkX C n g ta) := by
  refine ⟨fun pins s σ H Q I h => ?_⟩
  refine wpAny_Call_Name_kw (ld_glob I hg hm ?_ hdb)
  refine callWith_K (h₀ := X.base) I.ok.mod.kin T.kC (thn (ha.run pos pins s σ H _ I h) fun us s1 ⟨vs, H1, I1, r1, hz, q1⟩ => ⟨I1.kIn, ?_⟩) he hpl
  have hus : us.length = n := r1.length.symm.trans hz
  refine run_mkx (us' := us) (vs' := vs) FB T iC tI F1 hr hx I1 (fun s' a X' => ?_) r1 hz (by show us.length ≤ sizeLine; rw [hus, sizeLine_eq]; omega) q1
  have z := hb s' (.ref a :: us) X' (by rw [List.append_nil, List.length_cons, hus, hps])
  rw [List.append_nil] at z
  exact z
theorem pe_mkx0 (FB : ExcBaseFacts B newId initId bmB) (T : Cl X.K C newId bmB) (iC : findIn X.K (.ref C) "__init__" = some (some (.ref fI))) (tI : isFn X.K (.ref fI) = true)
    (F1 : FnOk X.prog X.w X.K X.mg X.base CX k fI fd ps (spX C 0 g)) (hb : Binds X.K fd ps []) (hps : ps.length = 1) (hr : Room (k + 1) X.A) (hx : Passes CX X (fun _ _ _ => False)) (hg : Gl X x) (hm : X.mg x = some (.ref C))
    (hdb : (x == ("__debug__" : Str)) = false := by decide) : PE X (.Call (.Name x p) [] [] pos) (tMkX C 0 g tNil) := by
  refine ⟨fun pins s σ H Q I h => ?_⟩
  refine wpAny_Call_Name_kw (ld_glob I hg hm ?_ hdb)
  refine callWith_K0 I.kIn T.kC (run_mkx (us := []) (us' := []) (vs' := []) FB T iC tI F1 hr hx I (fun s' a X' => ?_) .nil rfl (Nat.zero_le _) h.2)
  have z := hb s' [.ref a] X' (by rw [List.append_nil, hps]; rfl)
  rw [List.append_nil] at z
  exact z
theorem pe_mkxk (FB : ExcBaseFacts B newId initId bmB) (T : Cl X.K C newId bmB) (iC : findIn X.K (.ref C) "__init__" = some (some (.ref fI))) (tI : isFn X.K (.ref fI) = true)
    (F1 : FnOk X.prog X.w X.K X.mg X.base CX k fI fd ps (spX C n g)) (hb : ∀ (s' : Shared) (a : Addr) (ws : List Value), ws.length = n → BindsTo s' fd ⟨[.ref a], ks.zip ws⟩ (ps.zip (.ref a :: ws))) (hr : Room (k + 1) X.A) (hx : Passes CX X (fun _ _ _ => False))
    (hg : Gl X x) (hm : X.mg x = some (.ref C)) (hkw : PK X kws tk) (hall : (backToKw pos (keywordEach kws X.env)).all (·.1.isSome) = true := by rfl) (hks : (backToKw pos (keywordEach kws X.env)).filterMap (·.1) = ks := by rfl)
    (hdb : (x == ("__debug__" : Str)) = false := by decide) (hpl : ((backTo pos (starEach [] X.env)).any (·.1) || (backToKw pos (keywordEach kws X.env)).any (·.1.isNone)) = false := by rfl) :
    PE X (.Call (.Name x p) [] kws pos) (tMkX C n g tk) := by
  refine ⟨fun pins s σ H Q I h => ?_⟩
  refine wpAny_Call_Name_kw (ld_glob I hg hm ?_ hdb)
  refine callWith_KW0 (h₀ := X.base) I.ok.mod.kin T.kC hall ?_ hpl
  refine thn (hkw.run pos pins s σ H _ I h) fun ws s2 ⟨zs, H2, I2, rz, hz, q2⟩ => ⟨I2.kIn, ?_⟩
  rw [hks]
  exact run_mkx (us := []) (us' := ws) (vs' := zs) FB T iC tI F1 hr hx I2 (fun s' a _ => hb s' a ws (rz.length.symm.trans hz)) rz hz (Nat.zero_le _) q2
end

/-! ### self.f = e in such an __init__ -/
/-- the reading -/
def tOsx (K : Frag) (C : Addr) (f : Str) (to te : TE) : TS := fun D σ H => te σ H fun y H1 => to σ H1 fun x H2 => ∃ a : Addr, x = .ref a ∧ findIn K (.ref C) f = some none ∧
  ((H2 a = some (exo a C none) ∧ ∀ dx, H2 dx = none → dx ≠ a → D.nx σ (upd (upd (upd H2 dx (exd dx [])) a (exo a C (some dx))) dx (exd dx [(f, y)]))) ∨
    ∃ (dx : Addr) (fs : List (Str × V)), H2 a = some (exo a C (some dx)) ∧ H2 dx = some (exd dx fs) ∧ fs.length ≤ 900 ∧ D.nx σ (upd H2 dx (exd dx ((f, y) :: fs))))
theorem ps_osx {X : Cx} {o e : Expr} {to te : TE} {f : Str} {p' pos : Pos} {C : Addr} {B newId : String} {bmB : List Value} (SF : StoreFacts B bmB "object.__setattr__" "object") (T : Cl X.K C newId bmB) (ho : PE X o to) (he : PE X e te)
    (hs : swapsWith e (some (.Attribute o f p')) pos.line X.env = pure false := by rfl) : PS X (.Assign [.Attribute o f p'] e pos) (tOsx X.K C f to te) := by
  refine ⟨fun pins s σ H D I h => ?_⟩
  refine plainObj_wpAny_Assign_Attribute (thn (he.run pins s σ H _ I h) fun v s1 ⟨y, H1, I1, r1, q1⟩ => thn (ho.run pins s1 σ H1 _ I1 q1) fun u s2 ⟨x, H2, I2, r2, a, ex, hno, q⟩ => ?_) hs
  subst ex
  obtain rfl : u = Value.ref a := r2
  rcases q with ⟨ea, q⟩ | ⟨dx, fs, ea, ed, hl, q⟩
  · exact set_new SF T I2 ea hno r1 fun dx s' n ne J => ⟨σ, _, J, q dx n ne⟩
  · exact set_old SF T I2 ea ed hl hno r1 fun s' J => ⟨σ, _, J, q⟩

/-! ### e.f, e a tracked exception -/
/-- what the class says so that its fields are read and isinstance asks rightly -/
abbrev Rd1 (K : Frag) (C : Addr) : Prop := ExcC K C
/-- the reading -/
def tXfl (K : Frag) (f : Str) (te : TE) : TE := fun σ H Q => te σ H fun x H1 => ∃ (a C : Addr) (fs : List (Str × V)) (v : V), x = .ref a ∧ ExcC K C ∧ findIn K (.ref C) f = some none ∧ IsX H1 a C fs ∧ fs.lookup f = some v ∧ Q v H1
theorem pe_xfl {X : Cx} {e : Expr} {te : TE} {pos : Pos} {n : Str} (he : PE X e te) (hb : attributeBase e n X.env (eval e X.env) = eval e X.env := by rfl) : PE X (.Attribute e n pos) (tXfl X.K n te) := by
  refine ⟨fun pins s σ H Q I h => ?_⟩
  refine attr_of hb (thn (he.run pins s σ H _ I h) fun u s1 hh => ?_)
  obtain ⟨x, H1, I1, rx, a, C, fs, v, ex, T, hno, ix, l, q⟩ := hh
  subst ex
  obtain rfl : u = Value.ref a := rx
  rcases ix with ⟨rfl, _⟩ | ⟨dd, ea, ed⟩
  · cases l
  obtain ⟨t1, ho⟩ := exo_at I1.hok ea
  obtain ⟨mA, hns, hr⟩ := exd_at I1.hok ed
  obtain ⟨od, hod, hl⟩ := lookIn_ns hns
  obtain ⟨u, hu, ru⟩ := RelO.some_of (v := v) (o := mA n) (by rw [← l]; exact hr n)
  have J : InstAt s1.heap a (excObj C t1 (some dd) .none) C (some od) := ⟨ho, rfl, rfl, hod⟩
  exact HandSPX.exc_get I1.kIn J T.hg T.hk T.hs (findObj_own T.hd hno rfl (by rw [hl, hu])) (handed_of ru) ⟨v, H1, I1.tok _, ru, q⟩

/-! ### isinstance(e, c), e a tracked exception (with its own dict or without one) -/
/-- the value that a class's V stands for -/
def clsV : V → Option Value
  | .ref a => some (.ref a)
  | .ty n => some (.type n)
  | _ => none
theorem clsV_ok {c : V} {u cv : Value} (r : RelV c u) (h : clsV c = some cv) : u = cv := by
  cases c with
  | ref a =>
    have r' : u = Value.ref a := r
    rw [r']
    exact Option.some.inj h
  | ty n =>
    have r' : u = Value.type n := r
    rw [r']
    exact Option.some.inj h
  | _ => cases h
def rIsX (K : Frag) : List V → Hp → VK → Prop := fun xs H Q => ∃ (a C : Addr) (fs : List (Str × V)) (c : V) (cv : Value) (b : Bool), xs = [.ref a, c] ∧ IsX H a C fs ∧ ExcC K C ∧ clsV c = some cv ∧ kitOne K (.ref C) cv = some b ∧ Q (.bl b) H
theorem call_isx {X : Cx} : CallR X (.builtin "isinstance") (rIsX X.K) := by
  intro pins s σ H xs us Q I r h
  obtain ⟨a, C, fs, c, cv, b, rfl, ix, T, hc, e, q⟩ := h
  cases r with
  | cons rx rr =>
    cases rr with
    | cons rt rr =>
      cases rr
      cases rx
      have ec := clsV_ok rt hc
      subst ec
      have cl : (clsIn X.K C).isSome = true := by
        obtain ⟨cd, hc', _⟩ := any_some T.hd
        rw [hc']
        rfl
      obtain ⟨od, ox, J⟩ : ∃ (od : Option Obj) (ox : Obj), InstAt s.heap a ox C od := by
        rcases ix with ⟨_, ea⟩ | ⟨dd, ea, ed⟩
        · obtain ⟨t1, ho⟩ := exo_at I.hok ea
          exact ⟨none, _, ho, rfl, rfl, trivial⟩
        · obtain ⟨t1, ho⟩ := exo_at I.hok ea
          obtain ⟨mA, ⟨od, es, ep, hod, _⟩, _⟩ := exd_at I.hok ed
          exact ⟨some od, _, ho, rfl, rfl, hod⟩
      exact kia_one (kitx_exc cl T.hg T.hk T.hs T.ha T.hn T.ht T.hm) I.kIn J e (fun z => nomatch z) fun tk => ⟨.bl b, H, I.kept (t' := tk) fun _ _ z => z, rfl, q⟩

/-! ### the three shapes of such a class -/
/-- what the written part says of the class's __init__ -/
structure InitD (P : Program) (K : Frag) (C f cc cda : Addr) (newId initId : String) (bmB : List Value) (params : Arguments) (body : List Stmt) (scope : Scope) (qual : Str) (fd : FuncData) : Prop where
  cl : Cl K C newId bmB
  sup : SupD K C C cc cda P initId
  iC : findIn K (.ref C) "__init__" = some (some (.ref f))
  tI : isFn K (.ref f) = true
  lk : ∃ doc pm ctv oc od osl, fd = (nfX "__init__" qual params body scope cc cda).fd doc pm ctv ∧ K.lookup f = some ⟨oc, od, .func fd, osl⟩
  code : codeIn K (.ref cda) qual = true
/-- what the text of the first statement must allow: all by rfl -/
structure SupT (text : Str) (p0 p1 p2 p3 p4 p5 : Pos) (j : Nat) (F : NF) : Prop where
  he : ∀ L f, ∃ pl : Sem Bool, eval (.Call (.Attribute (.Call (.Name "super" p0) [] [] p1) "__init__" p2) [.Constant (.str text) j p3] [] p4) (envF F f L) = (do
      let ov ← attributeBase (.Call (.Name "super" p0) [] [] p1) "__init__" (envF F f L) (eval (.Call (.Name "super" p0) [] [] p1) (envF F f L))
      standAt p2.atName
      let (fv, first) ← holding [ov] (getMethod ov "__init__" pl)
      callWith p4 fv first (backTo p4 (starEach [.Constant (.str text) j p3] (envF F f L))) [])
  hs : ∀ L f, swapsWith (.Call (.Attribute (.Call (.Name "super" p0) [] [] p1) "__init__" p2) [.Constant (.str text) j p3] [] p4) none p5.line (envF F f L) = pure false
  hi : ∀ L f, interactive (envF F f L) = false
section
variable {CX : CXT} {P : Program} {w : World} {K : Frag} {mg : Str → Option Value} {base : Heap} {f C cc cda : Addr} {k : Nat} {qual : Str} {params : Arguments} {scope : Scope} {fd : FuncData}
  {B newId i : String} {bmB : List Value} {text a1 a2 n1 n2 : Str} {p0 p1 p2 p3 p4 p5 q1 q2 q3 q4 r1 r2 r3 r4 : Pos} {j : Nat} {ar : Arg}
theorem hB_of (FB : ExcBaseFacts B newId i bmB) (T : Cl K C newId bmB) : subIn K (.ref C) (.type B) = some true → True := fun _ => trivial
/-- no field -/
theorem init_zero (FB : ExcBaseFacts B newId i bmB) (KF : KxsFacts B i) (hB : subIn K (.ref C) (.type B) = some true) (D : InitD P K C f cc cda newId i bmB params (supBody text p0 p1 p2 p3 p4 p5 j []) scope qual fd)
    (NS : NScope ["self", "__class__"] ["self"] ["__class__"] scope) (hp : (params.posonlyargs ++ params.args).head? = some ar) (har : ar.arg = "self") (hks : scope.names.lookup ("super" : Str) = some .globalImplicit)
    (ST : SupT text p0 p1 p2 p3 p4 p5 j (nfX "__init__" qual params (supBody text p0 p1 p2 p3 p4 p5 j []) scope cc cda))
    (hb : ∀ (doc pm ctv : Value) (us : List Value), us.length = 1 → bindArgs ((nfX "__init__" qual params (supBody text p0 p1 p2 p3 p4 p5 j []) scope cc cda).fd doc pm ctv) ⟨us, []⟩ = pure ((["self"] : List Str).zip us)) :
    FnOk P w K mg base CX (k + 1) f fd ["self"] (spX C 0 fun _ => []) := by
  obtain ⟨doc, pm, ctv, oc, od, osl, rfl, lk⟩ := D.lk
  refine init_of (ar := ar) FB KF D.cl D.sup hB lk D.code NS (by rw [har]; rfl) rfl hp hks (by rw [har]; exact NS.par _ List.mem_cons_self) ST.he ST.hs ST.hi hb fun A outer s H a ws Q E hr hl ha hq => ?_
  exact ⟨_, pss_nil, hq H (fun _ _ _ e => e) (.inl ⟨rfl, ha⟩)⟩
/-- one field -/
theorem init_one (FB : ExcBaseFacts B newId i bmB) (KF : KxsFacts B i) (SF : StoreFacts B bmB "object.__setattr__" "object") (hB : subIn K (.ref C) (.type B) = some true)
    (D : InitD P K C f cc cda newId i bmB params (supBody text p0 p1 p2 p3 p4 p5 j [.Assign [.Attribute (.Name "self" q1) a1 q2] (.Name n1 q3) q4]) scope qual fd)
    (NS : NScope ["self", n1, "__class__"] ["self", n1] ["__class__"] scope) (hp : (params.posonlyargs ++ params.args).head? = some ar) (har : ar.arg = "self") (hks : scope.names.lookup ("super" : Str) = some .globalImplicit)
    (ST : SupT text p0 p1 p2 p3 p4 p5 j (nfX "__init__" qual params (supBody text p0 p1 p2 p3 p4 p5 j [.Assign [.Attribute (.Name "self" q1) a1 q2] (.Name n1 q3) q4]) scope cc cda))
    (hb : ∀ (doc pm ctv : Value) (us : List Value), us.length = 2 → bindArgs ((nfX "__init__" qual params (supBody text p0 p1 p2 p3 p4 p5 j [.Assign [.Attribute (.Name "self" q1) a1 q2] (.Name n1 q3) q4]) scope cc cda).fd doc pm ctv) ⟨us, []⟩ = pure ((["self", n1] : List Str).zip us))
    (hno : findIn K (.ref C) a1 = some none) (hd1 : (n1 == ("__debug__" : Str)) = false) (hd2 : (n1 == ("__classdict__" : Str)) = false) :
    FnOk P w K mg base CX (k + 1) f fd ["self", n1] (spX C 1 fun ws => [(a1, ws.getD 0 .non)]) := by
  obtain ⟨doc, pm, ctv, oc, od, osl, rfl, lk⟩ := D.lk
  refine init_of (ar := ar) FB KF D.cl D.sup hB lk D.code NS (by rw [har]; rfl) rfl hp hks (by rw [har]; exact NS.par _ List.mem_cons_self) ST.he ST.hs ST.hi hb fun A outer s H a ws Q E hr hl ha hq => ?_
  obtain ⟨v, rfl⟩ : ∃ v, ws = [v] := by
    match ws, hl with
    | [v], _ => exact ⟨v, rfl⟩
  refine ⟨_, pss_one (ps_osx SF D.cl (pv 0 rfl (.inl (NS.par _ List.mem_cons_self))) (pe_var (i := 1) rfl (.inl (NS.par _ (List.mem_cons_of_mem _ List.mem_cons_self))) hd1 hd2)), ?_⟩
  refine ⟨_, rfl, _, rfl, a, rfl, hno, .inl ⟨ha, fun dx n ne => hq _ (fun b o hb e => ?_) (.inr ⟨dx, ?_, upd_same⟩)⟩⟩
  · rw [upd_ne (ne_of_none e n), upd_ne hb, upd_ne (ne_of_none e n)]
    exact e
  · rw [upd_ne ne.symm, upd_same]
/-- two fields -/
theorem init_two (FB : ExcBaseFacts B newId i bmB) (KF : KxsFacts B i) (SF : StoreFacts B bmB "object.__setattr__" "object") (hB : subIn K (.ref C) (.type B) = some true)
    (D : InitD P K C f cc cda newId i bmB params (supBody text p0 p1 p2 p3 p4 p5 j [.Assign [.Attribute (.Name "self" q1) a1 q2] (.Name n1 q3) q4, .Assign [.Attribute (.Name "self" r1) a2 r2] (.Name n2 r3) r4]) scope qual fd)
    (NS : NScope ["self", n1, n2, "__class__"] ["self", n1, n2] ["__class__"] scope) (hp : (params.posonlyargs ++ params.args).head? = some ar) (har : ar.arg = "self") (hks : scope.names.lookup ("super" : Str) = some .globalImplicit)
    (ST : SupT text p0 p1 p2 p3 p4 p5 j (nfX "__init__" qual params (supBody text p0 p1 p2 p3 p4 p5 j [.Assign [.Attribute (.Name "self" q1) a1 q2] (.Name n1 q3) q4, .Assign [.Attribute (.Name "self" r1) a2 r2] (.Name n2 r3) r4]) scope cc cda))
    (hb : ∀ (doc pm ctv : Value) (us : List Value), us.length = 3 → bindArgs ((nfX "__init__" qual params (supBody text p0 p1 p2 p3 p4 p5 j [.Assign [.Attribute (.Name "self" q1) a1 q2] (.Name n1 q3) q4, .Assign [.Attribute (.Name "self" r1) a2 r2] (.Name n2 r3) r4]) scope cc cda).fd doc pm ctv) ⟨us, []⟩ = pure ((["self", n1, n2] : List Str).zip us))
    (hno : findIn K (.ref C) a1 = some none) (hno2 : findIn K (.ref C) a2 = some none) (hd1 : (n1 == ("__debug__" : Str)) = false) (hd2 : (n1 == ("__classdict__" : Str)) = false) (hd3 : (n2 == ("__debug__" : Str)) = false) (hd4 : (n2 == ("__classdict__" : Str)) = false) :
    FnOk P w K mg base CX (k + 1) f fd ["self", n1, n2] (spX C 2 fun ws => [(a2, ws.getD 1 .non), (a1, ws.getD 0 .non)]) := by
  obtain ⟨doc, pm, ctv, oc, od, osl, rfl, lk⟩ := D.lk
  refine init_of (ar := ar) FB KF D.cl D.sup hB lk D.code NS (by rw [har]; rfl) rfl hp hks (by rw [har]; exact NS.par _ List.mem_cons_self) ST.he ST.hs ST.hi hb fun A outer s H a ws Q E hr hl ha hq => ?_
  obtain ⟨v, u, rfl⟩ : ∃ v u, ws = [v, u] := by
    match ws, hl with
    | [v, u], _ => exact ⟨v, u, rfl⟩
  refine ⟨_, pss_cons (ps_osx SF D.cl (pv 0 rfl (.inl (NS.par _ List.mem_cons_self))) (pe_var (i := 1) rfl (.inl (NS.par _ (List.mem_cons_of_mem _ List.mem_cons_self))) hd1 hd2))
    (pss_one (ps_osx SF D.cl (pv 0 rfl (.inl (NS.par _ List.mem_cons_self))) (pe_var (i := 2) rfl (.inl (NS.par _ (List.mem_cons_of_mem _ (List.mem_cons_of_mem _ List.mem_cons_self)))) hd3 hd4))), ?_⟩
  refine ⟨_, rfl, _, rfl, a, rfl, hno, .inl ⟨ha, fun dx n ne => ?_⟩⟩
  refine ⟨_, rfl, _, rfl, a, rfl, hno2, .inr ⟨dx, _, (by rw [upd_ne ne.symm, upd_same]), upd_same, by show 1 ≤ 900; decide, hq _ (fun b o hb e => ?_) (.inr ⟨dx, ?_, upd_same⟩)⟩⟩
  · rw [upd_ne (ne_of_none e n), upd_ne (ne_of_none e n), upd_ne hb, upd_ne (ne_of_none e n)]
    exact e
  · rw [upd_ne ne.symm, upd_ne ne.symm, upd_same]
end
end EX
/-! X2: repr of nested data (lists, tuples, dicts with int and text keys) over the layer. -/
namespace RP
open PySem PySem.Spec PyProof.Rows L2
def keyD : Key → PyData
  | .inl i => .int i
  | .inr x => .str x
/-- v is read as the datum d -/
inductive DV (H : Hp) : V → PyData → Prop
  | non : DV H .non .none
  | bl (b : Bool) : DV H (.bl b) (.bool b)
  | int (i : Int) : DV H (.int i) (.int i)
  | str (x : Str) : DV H (.str x) (.str x)
  | lst {a : Addr} {xs : List V} {ds : List PyData} (h : H a = some (.lst xs)) (l : xs.length = ds.length) (z : ∀ (i : Nat) (x : V) (d : PyData), xs[i]? = some x → ds[i]? = some d → DV H x d) : DV H (.ref a) (.list ds)
  | tup {a : Addr} {xs : List V} {ds : List PyData} (h : H a = some (.tup xs)) (l : xs.length = ds.length) (z : ∀ (i : Nat) (x : V) (d : PyData), xs[i]? = some x → ds[i]? = some d → DV H x d) : DV H (.ref a) (.tuple ds)
  | dic {a : Addr} {kvs : List (Key × V)} {ds : List PyData} (h : H a = some (.dK kvs)) (l : kvs.length = ds.length) (z : ∀ (i : Nat) (x : Key × V) (d : PyData), kvs[i]? = some x → ds[i]? = some d → DV H x.2 d) :
      DV H (.ref a) (.dict ((kvs.map fun q => keyD q.1).zip ds))
theorem DV.same {H H' : Hp} {v : V} {d : PyData} (e : Same H H') (x : DV H v d) : DV H' v d := by
  induction x with
  | non => exact .non
  | bl b => exact .bl b
  | int i => exact .int i
  | str x => exact .str x
  | lst h l z ih => exact .lst (e _ _ h) l ih
  | tup h l z ih => exact .tup (e _ _ h) l ih
  | dic h l z ih => exact .dic (e _ _ h) l ih
theorem readsAll_of {h : Heap} : ∀ {us : List Value} {ds : List PyData}, us.length = ds.length → (∀ (i : Nat) (u : Value) (d : PyData), us[i]? = some u → ds[i]? = some d → ∃ as, Reads h u d as ∧ sysModules ∉ as) → ∃ as, ReadsAll h us ds as ∧ sysModules ∉ as
  | [], [], _, _ => ⟨[], .nil, by simp⟩
  | u :: us, d :: ds, l, z => by
    obtain ⟨as, r, n⟩ := z 0 u d rfl rfl
    obtain ⟨bs, r2, n2⟩ := readsAll_of (us := us) (ds := ds) (by simpa using l) fun i u' d' h1 h2 => z (i + 1) u' d' (by simpa using h1) (by simpa using h2)
    exact ⟨as ++ bs, .cons r r2, fun m => (List.mem_append.mp m).elim n n2⟩
theorem reads_keys {P : Program} {w : World} {h : Heap} : ∀ {es : List DictEntry} {vs : List (Key × Value)}, Pairs (mixKind P w) es vs → ReadsAll h (es.map (·.key)) (vs.map fun q => keyD q.1) []
  | _, _, .nil => .nil
  | _, _, .cons (e := e) (kv := kv) (es := es) (kvs := kvs) h1 h2 h3 => by
    have r := reads_keys (h := h) h3
    have q : Reads h e.key (keyD kv.1) [] := by
      rcases keyIs_shape h1 with ⟨i, t, e1, e2⟩ | ⟨x, t, e1, e2⟩
      · rw [e1, e2]
        exact .int i t
      · rw [e1, e2]
        exact .str x t
    exact .cons q r
theorem pairs_vals {P : Program} {w : World} : ∀ {es : List DictEntry} {vs : List (Key × Value)}, Pairs (mixKind P w) es vs → es.map (·.val) = vs.map (·.2)
  | _, _, .nil => rfl
  | _, _, .cons h1 h2 h3 => by
    rw [List.map_cons, List.map_cons, h2, pairs_vals h3]
theorem kv_get {α : Type} : ∀ {xs : List (α × V)} {us : List (α × Value)} {i : Nat} {x : α × V}, KV xs us → xs[i]? = some x → ∃ u, us[i]? = some u ∧ RelV x.2 u.2
  | _, _, _, _, .nil, e => by simp at e
  | _, _, 0, _, .cons r _, e => by
    simp at e
    subst e
    exact ⟨_, rfl, r.2⟩
  | _, _, i + 1, x, .cons _ t, e => by
    obtain ⟨u, h1, h2⟩ := kv_get (i := i) (x := x) t (by simpa using e)
    exact ⟨u, by simpa using h1, h2⟩
theorem kv_len {α : Type} {xs : List (α × V)} {us : List (α × Value)} (r : KV xs us) : xs.length = us.length := Paired.length r
theorem kv_keys {α : Type} : ∀ {xs : List (α × V)} {us : List (α × Value)}, KV xs us → xs.map (·.1) = us.map (·.1)
  | _, _, .nil => rfl
  | _, _, .cons r t => by rw [List.map_cons, List.map_cons, kv_keys t, r.1]
theorem get_of_len {α β : Type} {xs : List α} {ys : List β} (l : xs.length = ys.length) {i : Nat} {y : β} (h : ys[i]? = some y) : ∃ x, xs[i]? = some x := by
  have h1 := (List.getElem?_eq_some_iff.mp h).1
  exact ⟨xs[i]'(by omega), List.getElem?_eq_getElem (by omega)⟩
theorem reads_of {P : Program} {w : World} {H : Hp} {h : Heap} (ok : HOk P w H h) (hs : H sysModules = none) {v : V} {d : PyData} (x : DV H v d) : ∀ {u : Value}, RelV v u → ∃ as, Reads h u d as ∧ sysModules ∉ as := by
  have out : ∀ {a : Addr} {o : HO}, H a = some o → sysModules ≠ a := fun {a o} e z => by
    rw [z, e] at hs
    cases hs
  induction x with
  | non =>
    intro u r
    have r' : u = Value.none := r
    subst r'
    exact ⟨[], .none, by simp⟩
  | bl b =>
    intro u r
    have r' : u = Value.bool b := r
    subst r'
    exact ⟨[], .bool b, by simp⟩
  | int i =>
    intro u r
    obtain ⟨t, r'⟩ := (show ∃ t, u = Value.int i t from r)
    subst r'
    exact ⟨[], .int i t, by simp⟩
  | str s =>
    intro u r
    obtain ⟨t, r'⟩ := (show ∃ t, u = Value.str s t from r)
    subst r'
    exact ⟨[], .str s t, by simp⟩
  | @lst a xs ds ha l z ih =>
    intro u r
    have r' : u = Value.ref a := r
    subst r'
    obtain ⟨_, its, n, rv, e⟩ := (show ObjOk P w H h a (.lst xs) from ok a _ ha)
    obtain ⟨as, q, n2⟩ := readsAll_of (h := h) (us := its) (ds := ds) (rv.length.symm.trans l) fun i u' d' h1 h2 => by
      obtain ⟨x', hx⟩ := get_of_len rv.length h1
      obtain ⟨u2, hu, ru⟩ := rv.get hx
      rw [h1] at hu
      cases hu
      exact ih i x' d' hx h2 ru
    exact ⟨a :: as, .list e rfl rfl (by simpa using q), fun m => (List.mem_cons.mp m).elim (fun z => out ha z) n2⟩
  | @tup a xs ds ha l z ih =>
    intro u r
    have r' : u = Value.ref a := r
    subst r'
    obtain ⟨_, its, rv, ob, e, ec, n, ed⟩ := (show ObjOk P w H h a (.tup xs) from ok a _ ha)
    obtain ⟨as, q, n2⟩ := readsAll_of (h := h) (us := its) (ds := ds) (rv.length.symm.trans l) fun i u' d' h1 h2 => by
      obtain ⟨x', hx⟩ := get_of_len rv.length h1
      obtain ⟨u2, hu, ru⟩ := rv.get hx
      rw [h1] at hu
      cases hu
      exact ih i x' d' hx h2 ru
    exact ⟨as, .tuple e ec ed (by simpa using q), n2⟩
  | @dic a kvs ds ha l z ih =>
    intro u r
    have r' : u = Value.ref a := r
    subst r'
    obtain ⟨_, _, vs, kv, o, es, ep, e, ec, ed, _, pr, _⟩ := (show ObjOk P w H h a (.dK kvs) from ok a _ ha)
    obtain ⟨as, q, n2⟩ := readsAll_of (h := h) (us := vs.map (·.2)) (ds := ds) (by rw [List.length_map, ← kv_len kv, l]) fun i u' d' h1 h2 => by
      obtain ⟨x', hx⟩ := get_of_len (xs := kvs) l h2
      obtain ⟨u2, hu, ru⟩ := kv_get kv hx
      rw [List.getElem?_map, hu] at h1
      cases h1
      exact ih i x' d' hx h2 ru
    have k1 := reads_keys (h := h) pr
    have e1 : ((kvs.map fun q => keyD q.1).zip ds).map (·.1) = vs.map fun q => keyD q.1 := by
      rw [List.map_fst_zip (by rw [List.length_map]; omega)]
      have e2 := congrArg (List.map keyD) (kv_keys kv)
      rw [List.map_map, List.map_map] at e2
      exact e2
    have e3 : ((kvs.map fun q => keyD q.1).zip ds).map (·.2) = ds := List.map_snd_zip (by rw [List.length_map]; omega)
    refine ⟨a :: [] ++ as, .dict e ec.1 ed (by rw [e1]; exact k1) (by rw [e3, pairs_vals pr]; exact q), fun m => ?_⟩
    rcases List.mem_append.mp m with m | m
    · exact (List.mem_cons.mp m).elim (fun z => out ha z) (fun z => by cases z)
    · exact n2 m
section
variable {X : Cx}
/-- repr(x) -/
theorem call_repr (hg : X.A.guards = some []) (hs : ∃ o, X.K.lookup sysModules = some o) : CallR X (.builtin "repr") (fun xs H Q => ∃ v d, xs = [v] ∧ DV H v d ∧ d.showable = true ∧ d.shown.length ≤ sizeLine ∧ X.A.units + (d.depth + 1) < cLine ∧ Q (.str d.shown) H) := by
  intro pins s σ H xs us Q I r h
  obtain ⟨v, d, rfl, dv, sh, sz, un, q⟩ := h
  obtain ⟨u, rfl, ru⟩ := vals1 r
  obtain ⟨o, ho⟩ := hs
  have hn : H sysModules = none := (I.bs _ _ (I.ok.mod.kin _ _ ho)).2
  obtain ⟨as, rd, ns⟩ := reads_of I.hok hn dv ru
  have fin : ∀ h' t tk, (∀ b ob, s.heap.get? b = some ob → h'.get? b = some ob) → EP X pins σ Q (.str d.shown t) { s with heap := h', toks := tk } := fun h' t tk hk => ⟨.str d.shown, H, I.kept (t' := tk) (h' := h') hk, ⟨t, rfl⟩, q⟩
  cases rd with
  | none => exact PySem.P.repr_of_none ⟨.str _, H, I.tok _, ⟨_, rfl⟩, q⟩
  | bool b => exact PySem.P.repr_of_bool ⟨.str _, H, I.tok _, ⟨_, rfl⟩, by cases b <;> exact q⟩
  | int i t => exact PySem.P.repr_of_int (by simpa [PyData.showable] using sh) ⟨.str _, H, I.tok _, ⟨_, rfl⟩, q⟩
  | str x t => exact PySem.P.repr_of_str ⟨.str _, H, I.tok _, ⟨_, rfl⟩, q⟩ sz
  | list h1 h2 h3 h4 => exact repr_of_reads' (.list h1 h2 h3 h4) sh (fun _ => ns) hg un (fun _ _ e => e) (fun h' u tk hk => fin h' u tk hk) sz
  | tuple h1 h2 h3 h4 => exact repr_of_reads' (.tuple h1 h2 h3 h4) sh (fun _ => ns) hg un (fun _ _ e => e) (fun h' u tk hk => fin h' u tk hk) sz
  | dict h1 h2 h3 h4 h5 => exact repr_of_reads' (.dict h1 h2 h3 h4 h5) sh (fun _ => ns) hg un (fun _ _ e => e) (fun h' u tk hk => fin h' u tk hk) sz
end
end RP
/-! X3: how long a shown datum is. -/
namespace RP
open PySem PySem.Spec PyProof.Rows L2
theorem join_le (ts : List Str) : (Str.join ", " ts).length ≤ piled ts := by
  by_cases h : ts = []
  · subst h
    exact Nat.le_refl _
  · have := join_length_add ts h
    omega
theorem list_le (ts : List Str) : (listText ts).length ≤ piled ts + 2 := by
  rw [listText_eq_join, strLen_append, strLen_append]
  have := join_le ts
  have e1 : ("[" : Str).length = 1 := rfl
  have e2 : ("]" : Str).length = 1 := rfl
  omega
theorem tuple_le (ts : List Str) : (tupleText ts).length ≤ piled ts + 3 := by
  unfold tupleText
  rw [strLen_append, strLen_append]
  have := join_le ts
  have e1 : ("(" : Str).length = 1 := rfl
  have e2 : (((if (ts.length == 1) = true then ",)" else ")" : String)) : Str).length ≤ 2 := by split <;> decide
  omega
theorem dict_le (ts : List Str) : (dictText ts).length ≤ piled ts + 2 := by
  unfold dictText
  rw [strLen_append, strLen_append]
  have := join_le ts
  have e1 : ("{" : Str).length = 1 := rfl
  have e2 : ("}" : Str).length = 1 := rfl
  omega
theorem piled_le {ts : List Str} {n : Nat} (h : ∀ t ∈ ts, t.length ≤ n) : piled ts ≤ ts.length * (n + 2) := by
  induction ts with
  | nil => exact Nat.zero_le _
  | cons t ts ih =>
    rw [piled_cons, List.length_cons, Nat.succ_mul]
    have h1 := h t List.mem_cons_self
    have h2 := ih fun t' ht => h t' (List.mem_cons_of_mem _ ht)
    omega
theorem shownAll_map : ∀ ds : List PyData, PyData.shownAll ds = ds.map PyData.shown
  | [] => rfl
  | d :: ds => by rw [List.map_cons, ← shownAll_map ds]; rfl
theorem showableAll_all : ∀ ds : List PyData, PyData.showableAll ds = ds.all PyData.showable
  | [] => rfl
  | d :: ds => by rw [List.all_cons, ← showableAll_all ds]; rfl
theorem depthAll_le {m : Nat} : ∀ {ds : List PyData}, (∀ d ∈ ds, d.depth ≤ m) → PyData.depthAll ds ≤ m
  | [], _ => Nat.zero_le _
  | d :: ds, h => by
    show max d.depth (PyData.depthAll ds) ≤ m
    exact Nat.max_le.mpr ⟨h d List.mem_cons_self, depthAll_le fun d' hd => h d' (List.mem_cons_of_mem _ hd)⟩
/-- a datum that can be shown in n signs, nested at most m deep -/
structure Sh (d : PyData) (n m : Nat) : Prop where
  able : d.showable = true
  len : d.shown.length ≤ n
  deep : d.depth ≤ m
theorem Sh.mono {d : PyData} {n m n' m' : Nat} (s : Sh d n m) (h1 : n ≤ n') (h2 : m ≤ m') : Sh d n' m' := ⟨s.able, Nat.le_trans s.len h1, Nat.le_trans s.deep h2⟩
theorem Sh.list {ds : List PyData} {n m : Nat} (h : ∀ d ∈ ds, Sh d n m) : Sh (.list ds) (ds.length * (n + 2) + 2) (m + 1) := by
  refine ⟨?_, ?_, ?_⟩
  · show PyData.showableAll ds = true
    rw [showableAll_all]
    exact List.all_eq_true.mpr fun d hd => (h d hd).able
  · show (listText (PyData.shownAll ds)).length ≤ _
    have h1 := piled_le (ts := PyData.shownAll ds) (n := n) fun t ht => by
      rw [shownAll_map] at ht
      obtain ⟨d, hd, rfl⟩ := List.mem_map.mp ht
      exact (h d hd).len
    have := list_le (PyData.shownAll ds)
    have e : (PyData.shownAll ds).length = ds.length := by rw [shownAll_map, List.length_map]
    rw [e] at h1
    omega
  · show PyData.depthAll ds + 1 ≤ m + 1
    exact Nat.succ_le_succ (depthAll_le fun d hd => (h d hd).deep)
theorem Sh.tuple {ds : List PyData} {n m : Nat} (h : ∀ d ∈ ds, Sh d n m) : Sh (.tuple ds) (ds.length * (n + 2) + 3) (m + 1) := by
  refine ⟨?_, ?_, ?_⟩
  · show PyData.showableAll ds = true
    rw [showableAll_all]
    exact List.all_eq_true.mpr fun d hd => (h d hd).able
  · show (tupleText (PyData.shownAll ds)).length ≤ _
    have h1 := piled_le (ts := PyData.shownAll ds) (n := n) fun t ht => by
      rw [shownAll_map] at ht
      obtain ⟨d, hd, rfl⟩ := List.mem_map.mp ht
      exact (h d hd).len
    have := tuple_le (PyData.shownAll ds)
    have e : (PyData.shownAll ds).length = ds.length := by rw [shownAll_map, List.length_map]
    rw [e] at h1
    omega
  · show PyData.depthAll ds + 1 ≤ m + 1
    exact Nat.succ_le_succ (depthAll_le fun d hd => (h d hd).deep)
theorem shownKv_mem {n : Nat} : ∀ {kvs : List (PyData × PyData)}, (∀ q ∈ kvs, q.1.shown.length ≤ n ∧ q.2.shown.length ≤ n) → ∀ t ∈ PyData.shownKv kvs, t.length ≤ n + 2 + n
  | [], _, t, ht => by cases ht
  | (k, v) :: r, h, t, ht => by
    rcases List.mem_cons.mp ht with e | ht
    · subst e
      rw [strLen_append, strLen_append]
      have := h (k, v) List.mem_cons_self
      have e1 : (": " : Str).length = 2 := rfl
      dsimp only at this
      omega
    · exact shownKv_mem (fun q hq => h q (List.mem_cons_of_mem _ hq)) t ht
theorem shownKv_len : ∀ kvs : List (PyData × PyData), (PyData.shownKv kvs).length = kvs.length
  | [] => rfl
  | (k, v) :: r => congrArg Nat.succ (shownKv_len r)
theorem showableKv_all : ∀ kvs : List (PyData × PyData), (∀ q ∈ kvs, q.1.showable = true ∧ q.2.showable = true) → PyData.showableKv kvs = true
  | [], _ => rfl
  | (k, v) :: r, h => by
    show (k.showable && v.showable && PyData.showableKv r) = true
    rw [(h (k, v) List.mem_cons_self).1, (h (k, v) List.mem_cons_self).2, showableKv_all r fun q hq => h q (List.mem_cons_of_mem _ hq)]
    rfl
theorem depthKv_le {m : Nat} : ∀ {kvs : List (PyData × PyData)}, (∀ q ∈ kvs, q.1.depth ≤ m ∧ q.2.depth ≤ m) → PyData.depthKv kvs ≤ m
  | [], _ => Nat.zero_le _
  | (k, v) :: r, h => by
    show max (max k.depth v.depth) (PyData.depthKv r) ≤ m
    exact Nat.max_le.mpr ⟨Nat.max_le.mpr (h (k, v) List.mem_cons_self), depthKv_le fun q hq => h q (List.mem_cons_of_mem _ hq)⟩
theorem Sh.dict {kvs : List (PyData × PyData)} {n m : Nat} (h : ∀ q ∈ kvs, Sh q.1 n m ∧ Sh q.2 n m) : Sh (.dict kvs) (kvs.length * (n + 2 + n + 2) + 2) (m + 1) := by
  refine ⟨showableKv_all kvs fun q hq => ⟨(h q hq).1.able, (h q hq).2.able⟩, ?_, Nat.succ_le_succ (depthKv_le fun q hq => ⟨(h q hq).1.deep, (h q hq).2.deep⟩)⟩
  show (dictText (PyData.shownKv kvs)).length ≤ _
  have h1 := piled_le (ts := PyData.shownKv kvs) (n := n + 2 + n) (shownKv_mem fun q hq => ⟨(h q hq).1.len, (h q hq).2.len⟩)
  have := dict_le (PyData.shownKv kvs)
  rw [shownKv_len] at h1
  omega
theorem Sh.int {i : Int} {k : Nat} (hk : 0 < k) (h : i.natAbs.log2 < k) (hk2 : k ≤ 1920) : Sh (.int i) (k + 1) 0 := by
  refine ⟨decide_eq_true (by omega), ?_, Nat.le_refl _⟩
  show (Str.ofString (toString i)).length ≤ _
  rw [PySem.ofString_length]
  exact int_text_length_le hk h
theorem Sh.str {x : Str} {k : Nat} (h : x.length ≤ k) (hc : ∀ c ∈ x.cps.toList, c < 16 ^ 8) : Sh (.str x) (10 * k + 2) 0 := by
  refine ⟨rfl, ?_, Nat.le_refl _⟩
  have := PySem.StrLaws.reprText_len x hc
  show (reprText x).length ≤ _
  omega
theorem Sh.none : Sh .none 4 0 := ⟨rfl, by decide, Nat.le_refl _⟩
theorem Sh.bool (b : Bool) : Sh (.bool b) 5 0 := ⟨rfl, by cases b <;> decide, Nat.le_refl _⟩
end RP
/-! XH: the head's facts, with exception classes whose __init__ says super().__init__. -/
namespace XH
open PySem PySem.Spec PySem.W PyProof.Rows L2 EX He NdefX
def veB : List Value := [.type "ValueError", .type "Exception", .type "BaseException", .type "object"]
def leB : List Value := [.type "LookupError", .type "Exception", .type "BaseException", .type "object"]
/-- an exception class with its own __init__ -/
structure XDef where
  cls : Str
  le : Bool
  qual : Str
  params : Arguments
  body : List Stmt
  scope : Scope
  flds : List Str
def XDef.bmB (d : XDef) : List Value := if d.le then leB else veB
def XDef.newId (d : XDef) : String := if d.le then "LookupError.__new__" else "ValueError.__new__"
def XDef.initId (d : XDef) : String := if d.le then "LookupError.__init__" else "ValueError.__init__"
def XDef.B (d : XDef) : String := if d.le then "LookupError" else "ValueError"
def iAt (K : Frag) (x : Str) : Addr := ma K (ga K x) "__init__"
def fnc (K : Frag) (x : Str) : Option FuncData := match K.lookup (iAt K x) with
  | some ⟨_, _, .func fd, _⟩ => some fd
  | _ => none
def ccOf (K : Frag) (x : Str) : Addr := match fnc K x with
  | some fd => (match fd.closure with
    | [(_, c)] => c
    | _ => 0)
  | none => 0
def cdaOf (K : Frag) (x : Str) : Addr := match fnc K x with
  | some fd => (match fd.code with
    | .ref c => c
    | _ => 0)
  | none => 0
abbrev FnZ : Type := Option (Str × Str × Arguments × FuncBody × Scope × Addr × List Str × Addr)
def fnZ (K : Frag) (x : Str) : FnZ := (fnc K x).map fun fd => (fd.name, fd.qualname, fd.params, fd.body, fd.scope, fd.globals, fd.closure.map (·.1), fd.builtins)
def XDef.val (d : XDef) : FnZ := some ("__init__", d.qual, d.params, .stmts d.body, d.scope, mainGlobals, ["__class__"], builtinsNs)
/-! ### what is asked, as Bools -/
def clB (K : Frag) (C : Addr) (newId : String) (bmB : List Value) : Bool :=
  excInitIn K C bmB newId && (excOver K C bmB && (eqO (findIn K (.ref C) "__setattr__") (some (some (.builtin "object.__setattr__"))) && (hasDictIn K C && (keepIn K (.ref C) && (decide (subIn K (.ref C) (.type "BaseException") = some true) && decide (typeIn K (.ref C) = some (.type "type")))))))
theorem clB_ok {K : Frag} {C : Addr} {newId : String} {bmB : List Value} (h : clB K C newId bmB = true) : Cl K C newId bmB := by
  obtain ⟨h1, h⟩ := ba h
  obtain ⟨h2, h⟩ := ba h
  obtain ⟨h3, h⟩ := ba h
  obtain ⟨h4, h⟩ := ba h
  obtain ⟨h5, h⟩ := ba h
  obtain ⟨h6, h7⟩ := ba h
  exact ⟨h1, h2, eqO_ok h3, h4, h5, of_decide_eq_true h6, of_decide_eq_true h7⟩
def ecB (K : Frag) (C : Addr) : Bool :=
  eqO (findIn K (.ref C) "__getattribute__") (some (some (.builtin "BaseException.__getattribute__"))) && (eqO (findIn K (.ref C) "__getattr__") (some none) && (decide (subIn K (.ref C) (.type "BaseException") = some true) && (hasDictIn K C &&
    (eqO (findIn K (.ref C) "__class__") (some (some (.builtin "object.__class__"))) && (decide (specialIn K (.builtin "object.__class__") "__get__" = some (some (.builtin "getset_descriptor.__get__"))) && (decide (takesIn K (.builtin "object.__class__") = some true) && decide (mroIn K C (.type "object") = some true)))))))
theorem ecB_ok {K : Frag} {C : Addr} (h : ecB K C = true) : ExcC K C := by
  obtain ⟨h1, h⟩ := ba h
  obtain ⟨h2, h⟩ := ba h
  obtain ⟨h3, h⟩ := ba h
  obtain ⟨h4, h⟩ := ba h
  obtain ⟨h5, h⟩ := ba h
  obtain ⟨h6, h⟩ := ba h
  obtain ⟨h7, h8⟩ := ba h
  exact ⟨eqO_ok h1, eqO_ok h2, of_decide_eq_true h3, h4, eqO_ok h5, of_decide_eq_true h6, of_decide_eq_true h7, of_decide_eq_true h8⟩
def cellB (K : Frag) (cc D : Addr) : Bool := match K.lookup cc with
  | some ⟨_, _, .cell (some (.ref E)), _⟩ => decide (E = D)
  | _ => false
theorem cellB_ok {K : Frag} {cc D : Addr} (h : cellB K cc D = true) : ∃ cl cld csl, K.lookup cc = some ⟨cl, cld, .cell (some (.ref D)), csl⟩ := by
  unfold cellB at h
  split at h
  · rename_i a b E c e
    rw [of_decide_eq_true h] at e
    exact ⟨_, _, _, e⟩
  · cases h
def codeB (K : Frag) (cda : Addr) (file0 : Str) : Bool := match K.lookup cda with
  | some ⟨_, _, .fields vs, _⟩ => (match (vs[2]? : Option Value) with
    | some (.str file _) => (file0 == file)
    | _ => false)
  | _ => false
theorem codeB_ok {K : Frag} {cda : Addr} {file0 : Str} (h : codeB K cda file0 = true) : ∃ ccl cdd vs ccs file tf, K.lookup cda = some ⟨ccl, cdd, .fields vs, ccs⟩ ∧ vs[2]? = some (.str file tf) ∧ (file0 == file) = true := by
  unfold codeB at h
  split at h
  · rename_i a b vs c e
    split at h
    · rename_i file tf e2
      exact ⟨_, _, vs, _, file, tf, e, e2, h⟩
    · cases h
  · cases h
def supB (K : Frag) (C cc cda : Addr) (file0 : Str) (i : String) : Bool :=
  cellB K cc C && ((clsIn K C).isSome && (decide (mroIn K C (.ref C) = some true) && (codeB K cda file0 && (eqO (nsIn K mainGlobals "super") (some none) && (eqO (nsIn K cStatics "thirdparty.any") (some none) && eqO (ks_superIn K C C "__init__") (some (some (.builtin i))))))))
theorem supB_ok {K : Frag} {C cc cda : Addr} {P : Program} {i : String} (h : supB K C cc cda P.main.file i = true) (ht : (P.main.scope.names.lookup ("super" : Str)).isSome = false) : SupD K C C cc cda P i := by
  obtain ⟨h1, h⟩ := ba h
  obtain ⟨h2, h⟩ := ba h
  obtain ⟨h3, h⟩ := ba h
  obtain ⟨h4, h⟩ := ba h
  obtain ⟨h5, h⟩ := ba h
  obtain ⟨h6, h7⟩ := ba h
  exact ⟨cellB_ok h1, h2, of_decide_eq_true h3, codeB_ok h4, eqO_ok h5, eqO_ok h6, ht, eqO_ok h7⟩
def fdB (fd : FuncData) : Bool := match fd.defaults, fd.kwdefaults, fd.annotations, fd.code, fd.closure with
  | .none, .none, none, .ref _, [_] => true
  | _, _, _, _, _ => false
def XDef.ok (K : Frag) (file0 : Str) (d : XDef) : Bool :=
  clB K (ga K d.cls) d.newId d.bmB && (ecB K (ga K d.cls) && (supB K (ga K d.cls) (ccOf K d.cls) (cdaOf K d.cls) file0 d.initId && (eqO (findIn K (.ref (ga K d.cls)) "__init__") (some (some (.ref (iAt K d.cls)))) && (isFn K (.ref (iAt K d.cls)) &&
    ((match fnc K d.cls with | some fd => fdB fd | none => false) && (codeIn K (.ref (cdaOf K d.cls)) d.qual && (decide (subIn K (.ref (ga K d.cls)) (.type d.B) = some true) && ((d.flds.all fun f => eqO (findIn K (.ref (ga K d.cls)) f) (some none)) && eqO (nsIn K mainGlobals d.cls) (some (some (.ref (ga K d.cls))))))))))))
/-- what a look gives -/
structure XFacts (P : Program) (K : Frag) (h : Heap) (d : XDef) : Prop where
  init : ∃ fd, InitD P K (ga K d.cls) (iAt K d.cls) (ccOf K d.cls) (cdaOf K d.cls) d.newId d.initId d.bmB d.params d.body d.scope d.qual fd
  ec : ExcC K (ga K d.cls)
  sub : subIn K (.ref (ga K d.cls)) (.type d.B) = some true
  no : ∀ f ∈ d.flds, findIn K (.ref (ga K d.cls)) f = some none
  glo : nsIn K mainGlobals d.cls = some (some (.ref (ga K d.cls)))
theorem XDef.facts {P : Program} {K : Frag} {h : Heap} {d : XDef} (e : fnZ K d.cls = d.val) (c : d.ok K P.main.file = true) (ht : (P.main.scope.names.lookup ("super" : Str)).isSome = false) : XFacts P K h d := by
  obtain ⟨c1, c⟩ := ba c
  obtain ⟨c2, c⟩ := ba c
  obtain ⟨c3, c⟩ := ba c
  obtain ⟨c4, c⟩ := ba c
  obtain ⟨c5, c⟩ := ba c
  obtain ⟨c6, c⟩ := ba c
  obtain ⟨c7, c⟩ := ba c
  obtain ⟨c8, c⟩ := ba c
  obtain ⟨c9, c10⟩ := ba c
  refine ⟨?_, ecB_ok c2, of_decide_eq_true c8, fun f hf => eqO_ok (List.all_eq_true.mp c9 f hf), eqO_ok c10⟩
  unfold fnZ at e
  cases q : fnc K d.cls with
  | none =>
    rw [q] at c6
    cases c6
  | some fd =>
    rw [q] at e c6
    have hcc : ccOf K d.cls = (match fd.closure with | [(_, c)] => c | _ => 0) := by
      unfold ccOf
      rw [q]
    have hcd : cdaOf K d.cls = (match fd.code with | .ref c => c | _ => 0) := by
      unfold cdaOf
      rw [q]
    have hlk : ∃ oc od osl, K.lookup (iAt K d.cls) = some ⟨oc, od, .func fd, osl⟩ := by
      unfold fnc at q
      split at q
      · rename_i oc od fd' osl e'
        cases q
        exact ⟨_, _, _, e'⟩
      · cases q
    obtain ⟨oc, od, osl, lk⟩ := hlk
    obtain ⟨n1, n2, n3, n4, n5, n6, n7, n8, n9, n10, n11, n12, n13, n14, n15⟩ := fd
    have e2 : (some (n1, n2, n3, n4, n5, n6, n7.map (·.1), n15) : FnZ) = (some (("__init__" : Str), d.qual, d.params, .stmts d.body, d.scope, mainGlobals, [("__class__" : Str)], builtinsNs) : FnZ) := e
    simp only [Option.some.injEq, Prod.mk.injEq] at e2
    obtain ⟨rfl, rfl, rfl, rfl, rfl, rfl, e7, rfl⟩ := e2
    have c6' : fdB ⟨"__init__", d.qual, d.params, .stmts d.body, d.scope, mainGlobals, n7, n8, n9, n10, n11, n12, n13, n14, builtinsNs⟩ = true := c6
    unfold fdB at c6'
    split at c6'
    · rename_i c p h8 h9 h12 h13 h7
      dsimp only at h8 h9 h12 h13 h7
      subst h8 h9 h12 h13 h7
      obtain ⟨pn, pc⟩ := p
      have e7' : pn = ("__class__" : Str) := by simpa using e7
      subst e7'
      have hcc' : ccOf K d.cls = pc := hcc
      have hcd' : cdaOf K d.cls = c := hcd
      refine ⟨_, clB_ok c1, supB_ok c3 ht, eqO_ok c4, c5, ⟨n10, n11, n14, oc, od, osl, ?_, lk⟩, c7⟩
      rw [hcc', hcd']
    · cases c6'
/-! ### isinstance's answers by tables -/
def kitT (K : Frag) (xs ys : List Str) (f : Str → Str → Bool) : Bool := xs.all fun x => ys.all fun y => decide (kitOne K (.ref (ga K x)) (.ref (ga K y)) = some (f x y))
def kitTy (K : Frag) (xs : List Str) (ys : List String) (f : Str → String → Bool) : Bool := xs.all fun x => ys.all fun y => decide (kitOne K (.ref (ga K x)) (.type y) = some (f x y))
theorem kitT_ok {K : Frag} {xs ys : List Str} {f : Str → Str → Bool} (h : kitT K xs ys f = true) {x y : Str} (hx : x ∈ xs) (hy : y ∈ ys) : kitOne K (.ref (ga K x)) (.ref (ga K y)) = some (f x y) := of_decide_eq_true (List.all_eq_true.mp (List.all_eq_true.mp h x hx) y hy)
theorem kitTy_ok {K : Frag} {xs : List Str} {ys : List String} {f : Str → String → Bool} (h : kitTy K xs ys f = true) {x : Str} {y : String} (hx : x ∈ xs) (hy : y ∈ ys) : kitOne K (.ref (ga K x)) (.type y) = some (f x y) := of_decide_eq_true (List.all_eq_true.mp (List.all_eq_true.mp h x hx) y hy)
/-- an exception class without own __init__ -/
def plB (K : Frag) (x : Str) (newId : String) (bmB : List Value) : Bool := excIn K (ga K x) bmB newId && (keepIn K (.ref (ga K x)) && (ecB K (ga K x) && (decide (typeIn K (.ref (ga K x)) = some (.type "type")) && eqO (nsIn K mainGlobals x) (some (some (.ref (ga K x)))))))
/-! ### the Hook -/
abbrev AlZ : Type := AlT × Bool × List FnZ
def obsZ (fa : List Fa) (fn : List DefD) (ts : List Tab) (xs : List XDef) (ex : Frag → Bool) (file0 : Str) (K : Frag) : AlZ := (obsT fa fn ts K, ex K && xs.all (fun d => d.ok K file0), xs.map fun d => fnZ K d.cls)
def valZ (fn : List DefD) (ts : List Tab) (xs : List XDef) (w : World) : AlZ := (valT fn ts w, true, xs.map XDef.val)
def SaysZ (fa : List Fa) (fn : List DefD) (ts : List Tab) (xs : List XDef) (ex : Frag → Bool) (file0 : Str) (w : World) (K : Frag) : Prop := obsZ fa fn ts xs ex file0 K = valZ fn ts xs w
def obsZG (n : Nat) (fa : List Fa) (fn : List DefD) (ts : List Tab) (xs : List XDef) (ex : Frag → Bool) (file0 : Str) (g : Addr → Option Obj) : AlZ := obsZ fa fn ts xs ex file0 (frG g (sysModules :: cStatics :: asD g n))
def hookZ (n : Nat) (fa : List Fa) (fn : List DefD) (ts : List Tab) (xs : List XDef) (ex : Frag → Bool) (file0 : Str) : Hook where
  α := AlZ
  obs := fun s => obsZG n fa fn ts xs ex file0 s.heap.get?
  val := fun w => valZ fn ts xs w
  says := fun w h => ∃ K : Frag, K.In h ∧ SaysZ fa fn ts xs ex file0 w K
  of := fun _ _ e => ⟨_, frG_in, e⟩
  keeps := fun _ _ _ ⟨K, hK, c⟩ k => ⟨K, Frag.In.keeps hK k, c⟩
theorem obsZG_eq {n : Nat} {fa : List Fa} {fn : List DefD} {ts : List Tab} {xs : List XDef} {ex : Frag → Bool} {file0 : Str} {g : Addr → Option Obj} {s : Shared} (h : ∀ a, g a = s.heap.get? a) : obsZG n fa fn ts xs ex file0 g = (hookZ n fa fn ts xs ex file0).obs s := by
  have e : g = s.heap.get? := funext h
  rw [e] <;> rfl
section
variable {fa : List Fa} {fn : List DefD} {ts : List Tab} {xs : List XDef} {ex : Frag → Bool} {file0 : Str} {w : World} {K : Frag}
theorem SaysZ.tt (c : SaysZ fa fn ts xs ex file0 w K) : SaysT fa fn ts w K := congrArg (fun z : AlZ => z.1) c
theorem SaysZ.more (c : SaysZ fa fn ts xs ex file0 w K) : ex K = true := (ba (show (ex K && xs.all (fun d => d.ok K file0)) = true from congrArg (fun z : AlZ => z.2.1) c)).1
theorem SaysZ.x {P : Program} {h : Heap} (c : SaysZ fa fn ts xs ex P.main.file w K) (ht : (P.main.scope.names.lookup ("super" : Str)).isSome = false) (i : Nat) {d : XDef} (hd : xs[i]? = some d := by rfl) : XFacts P K h d := by
  have c1 := (ba (show (ex K && xs.all (fun d => d.ok K P.main.file)) = true from congrArg (fun z : AlZ => z.2.1) c)).2
  have e : xs.map (fun d => fnZ K d.cls) = xs.map XDef.val := congrArg (fun z : AlZ => z.2.2) c
  have e2 : (xs.map fun d => fnZ K d.cls)[i]? = (xs.map XDef.val)[i]? := by rw [e]
  rw [List.getElem?_map, List.getElem?_map, hd] at e2
  exact XDef.facts (Option.some.inj e2) (List.all_eq_true.mp c1 d (List.mem_of_getElem? hd)) ht
end
end XH
/-! X4: a held exception raised; clauses with names, several; a def called within a suite, which looks at the handled exception. -/
namespace EX
open PySem PySem.Spec PySem.W PySem.Calls PyProof.Rows L2 NdefX Builtin.ObjectAttr
/-- the dict d of an exception is one that we know -/
def DOk (H : Hp) (d : Option Addr) : Prop := d = none ∨ ∃ dx fs, d = some dx ∧ H dx = some (exd dx fs)
theorem DOk.same {H G : Hp} {d : Option Addr} (h : DOk H d) (e : Same H G) : DOk G d := by
  rcases h with z | ⟨dx, fs, z, y⟩
  · exact .inl z
  · exact .inr ⟨dx, fs, z, e _ _ y⟩
theorem DOk.at {X : Cx} {pins : List (Addr × Obj)} {σ : L2.St} {H : Hp} {s : Shared} {d : Option Addr} (I : Inv X pins σ H s) (h : DOk H d) {a C : Addr} {oe : Obj} (ho : s.heap.get? a = some oe) (hz : Zc (.ref C) d oe) (hf : ∃ vs, oe.data = .fields vs) : ∃ od, InstAt s.heap a oe C od := by
  obtain ⟨c, dd, dt, sl⟩ := oe
  obtain ⟨vs, hf⟩ := hf
  obtain ⟨hc, hd⟩ := hz
  dsimp only at hc hd hf
  subst hc hd hf
  rcases h with rfl | ⟨dx, fs, rfl, y⟩
  · exact ⟨none, ho, rfl, rfl, trivial⟩
  · obtain ⟨mA, ⟨od, es, ep, hod, _⟩, _⟩ := exd_at I.hok y
    exact ⟨some od, ho, rfl, rfl, hod⟩
/-- isinstance of the exception that is handled: it stands among the pins -/
def rIsP (K : Frag) (p : Addr × Obj) (C : Addr) (d : Option Addr) : List V → Hp → VK → Prop := fun xs H Q => ∃ (c : V) (cv : Value) (b : Bool), xs = [.ref p.1, c] ∧ DOk H d ∧ clsV c = some cv ∧ kitOne K (.ref C) cv = some b ∧ Q (.bl b) H
theorem call_isp {X : Cx} {p : Addr × Obj} {C : Addr} {d : Option Addr} (hp : p ∈ X.pn) (hz : Zc (.ref C) d p.2) (hf : ∃ vs, p.2.data = .fields vs) (T : ExcC X.K C) : CallR X (.builtin "isinstance") (rIsP X.K p C d) := by
  intro pins s σ H xs us Q I r h
  obtain ⟨c, cv, b, rfl, dk, hc, e, q⟩ := h
  obtain ⟨u1, u2, rfl, r1, r2⟩ := vals2 r
  cases (show u1 = Value.ref p.1 from r1)
  have ec := clsV_ok r2 hc
  subst ec
  have cl : (clsIn X.K C).isSome = true := by
    obtain ⟨cd, y, _⟩ := any_some T.hd
    rw [y]
    rfl
  obtain ⟨od, J⟩ := dk.at I (I.pin p (List.mem_append_left _ hp)).1 hz hf
  exact kia_one (kitx_exc cl T.hg T.hk T.hs T.ha T.hn T.ht T.hm) I.kIn J e (fun z => nomatch z) fun tk => ⟨.bl b, H, I.tok tk, rfl, q⟩
/-- an exception that was made and held may be raised: it leaves our heap, its dict stays -/
def tPx (K : Frag) (H0 : Hp) (te : TE) : L2.St → Hp → XK → Prop := fun σ H Q => te σ H fun x H1 => ∃ (a C : Addr) (fs : List (Str × V)), x = .ref a ∧ IsX H1 a C fs ∧ Fr0 H0 a ∧ (subIn K (.ref C) (.type "BaseException") = some true ∧ typeIn K (.ref C) = some (.type "type")) ∧ ∀ d, DOk (delH H1 a) d → Q (.ref C) d (delH H1 a)
theorem pmk_x {X : Cx} {e : Expr} {te : TE} (hx : X.ex = []) (he : PE X e te) : PMk X e (tPx X.K X.H_0 te) := by
  intro pins s σ H Q I h
  refine wpAny_mono (he.run pins s σ H _ I h) (fun u s1 hu => ?_) fun _ _ z => z
  obtain ⟨v, H1, J, rv, a, C, fs, rfl, ix, fr, ra, q⟩ := hu
  cases rv
  have ra := raises_own (X := X) ra.1 ra.2
  rcases ix with ⟨_, ea⟩ | ⟨dx, ea, ed⟩
  · obtain ⟨t1, ho⟩ := exo_at J.hok ea
    obtain ⟨G, k1, k2, J2⟩ := J.untrack ea fr hx
    exact ⟨a, _, _, { s1 with heap := G }, delH H1 a, .ref C, none, rfl, J2, k1, k2, ho, ⟨rfl, rfl⟩, rfl, rfl, delH_same, rfl, J.bare, ra, q _ (.inl rfl)⟩
  · obtain ⟨t1, ho⟩ := exo_at J.hok ea
    obtain ⟨mA, ⟨od, es, ep, hod, hdt, _⟩, _⟩ := exd_at J.hok ed
    have hne : dx ≠ a := fun z => by
      rw [z, ho] at hod
      cases hod
      cases hdt
    obtain ⟨G, k1, k2, J2⟩ := J.untrack ea fr hx
    exact ⟨a, _, _, { s1 with heap := G }, delH H1 a, .ref C, some dx, rfl, J2, k1, k2, ho, ⟨rfl, rfl⟩, rfl, rfl, delH_same, rfl, J.bare, ra, q _ (.inr ⟨dx, fs, rfl, by rw [delH_ne hne]; exact ed⟩)⟩
theorem ps_raiseX {X : Cx} {W : WX} {e : Expr} {te : TE} {pos : Pos} (K : Frag) (H0 : Hp) (hc : X.calm = true) (hx : X.ex = []) (hK : X.K = K) (h0 : X.H_0 = H0) (tk : Takes X W) (he : PE X e te) : PS X (.Raise (some e) none pos) (fun _ σ H => tPx K H0 te σ H fun cls d H' => W cls d σ H') := by
  subst hK h0
  exact ps_raise hc tk (pmk_x hx he)
/-- X('m') held as a value, X an own class without own __init__ -/
theorem pe_xown {X : Cx} {C : Addr} {bmB : List Value} {B newId initId : String} {x m : Str} {j : Nat} {p p2 pos : Pos} (F : ExcBaseFacts B newId initId bmB) (q : excIn X.K C bmB newId = true) (gC : X.mg x = some (.ref C)) (kC : keepIn X.K (.ref C) = true) (hg : Gl X x)
    (hdb : (x == ("__debug__" : Str)) = false := by decide) :
    PE X (.Call (.Name x p) [.Constant (.str m) j p2] [] pos) (fun _ H Q => ∀ a H2, H a = none → Same H H2 → IsX H2 a C [] → Q (.ref a) H2) := by
  refine ⟨fun pins s σ H Q I h => ?_⟩
  refine wpAny_Call_Name_kw (ld_glob I hg gC ?_ hdb)
  have ha : PA X [.Constant (.str m) j p2] (tCons (tC (.str m)) tNil) := pa_cons pe_str pa_nil
  refine callWith_K (h₀ := X.base) I.ok.mod.kin kC (thn (ha.run pos pins s σ H (fun vs H1 => vs = [V.str m] ∧ H = H1) I ⟨rfl, rfl⟩) fun us s1 ⟨vs, H1, J, rv, ev, eH⟩ => ?_)
  subst ev
  subst eH
  refine ⟨J.kIn, ?_⟩
  obtain ⟨u, rfl, ru⟩ := vals1 rv
  show wpAny _ _ (call (.ref C) [u]) _ _ _
  obtain ⟨bm, N, nm, qn, bs, hdct, sn, sub, ab, col, dd, k0, k1, k2, k3, k5, mN, hC, hN, hni, T⟩ := exc_obj J.kIn q
  refine wpAny_call_exc_subT F T hC hN hni (fun h' a hm => ?_) (by show 1 ≤ sizeLine; rw [sizeLine_eq]; omega)
  have hn : H a = none := J.hok.gone hm.new
  obtain ⟨t, ht, _, _⟩ := hm.there
  refine ⟨.ref a, upd H a (exo a C none), J.laidN hm.keeps hm.new hn (exo_ok ht), rfl, h a _ hn (fun b o z => ?_) (.inl ⟨rfl, upd_same⟩)⟩
  rw [upd_ne (ne_of_none z hn)]
  exact z
/-! ### several clauses with names -/
/-- the ends of a suite whose name (slot i) goes behind it -/
def Ends.gone (D : Ends) (i : Nat) : Ends := { nx := fun σ' H' => D.nx (σ'.set i none) H', rt := D.rt, bk := fun σ' H' => D.bk (σ'.set i none) H', ct := fun σ' H' => D.ct (σ'.set i none) H' }
def wAll (K : Frag) (Wout : WX) (i : Nat) (D : Ends) : List (Value × (Addr → Value → Option Addr → TS)) → WX
  | [] => Wout
  | (c, ts) :: r => fun cls d σ H => ∃ b, exmOne K cls c = some b ∧ (b = true → ∀ a, H a = none → ts a cls d (Ends.gone D i) (σ.set i (some (.ref a))) H) ∧ (b = false → wAll K Wout i D r cls d σ H)
inductive HdsN (X : Cx) (i : Nat) (n : Str) : List ExceptHandler → List (Value × (Addr → Value → Option Addr → TS)) → Prop
  | nil : HdsN X i n [] []
  | cons {x : Str} {c : Value} {ts : Addr → Value → Option Addr → TS} {b₀ : Stmt} {suite : List Stmt} {np pos' : Pos} {hds : List ExceptHandler} {l : List (Value × (Addr → Value → Option Addr → TS))} (hc : Names X x c)
      (hsu : ∀ (a : Addr) (oe : Obj) (cls : Value) (d : Option Addr) (pn : List (Addr × Obj)), Zc cls d oe → (∃ vs, oe.data = .fields vs) → PSs (X.suite a ((a, oe) :: pn)) (b₀ :: suite) (ts a cls d)) (r : HdsN X i n hds l) :
      HdsN X i n (.ExceptHandler (some (.Name x np)) (some n) (b₀ :: suite) pos' :: hds) ((c, ts) :: l)
section
variable {X : Cx} {body : List Stmt} {h₀ : ExceptHandler} {hds : List ExceptHandler} {l : List (Value × (Addr → Value → Option Addr → TS))} {pos : Pos} {tb : WX → TS} {Wout : WX} {i : Nat} {n : Str}
theorem ps_try_named (hs : X.stack = X.env :: X.outer) (hf : X.env.frame = some X.env.locals) (hN : X.N.Nodup) (hi : X.N[i]? = some n) (hln : X.env.kindOf n = some .local) (tk : Takes X Wout)
    (hb : ∀ (W : WX) (pn : List (Addr × Obj)) (xe : Value → Shared → Prop), Takes (X.tr pn xe) W → PassesOwn (model X.prog X.w) X.A X.env xe → PSs (X.tr pn xe) body (tb W))
    (hh : HdsN X i n (h₀ :: hds) l) : PS X (.Try body (h₀ :: hds) [] [] pos) (fun D σ H => tb (wAll X.K Wout i D l) D σ H) := by
  refine ⟨fun pins s σ H D I hw => ?_⟩
  have okX := I.ok
  have frX : X.A.frames = some (X.env :: X.outer) := by rw [okX.frames, hs]
  refine wpAny_Try_except ?_
  refine wpAny_mono ((hb (wAll X.K Wout i D l) (X.pn ++ pins) (fun e s₁ => wpAny (model X.prog X.w) X.A (noteFrame e X.env) (fun _ s₂ => wpAny (model X.prog X.w) X.A (setFlight e none) (fun _ s₃ =>
    wpAny (model X.prog X.w) X.A (handleBy e X.env (h₀ :: hds)) (SP X pins D) X.xe s₃) X.xe s₂) X.xe s₁) (fun u s' air => ?_) PassesOwn.looking).run [] s σ H D (I.toTry _) hw) (fun fl s1 out => ?_) (fun e s1 z => z)
  · obtain ⟨a, B, sI, pins', σ', H', cls, d, rfl, Jt, nb, up, sky, na, os, ag, wish⟩ := air
    have J : Inv X pins σ' H' sI := Jt.ofTry okX
    have sky' : Sky B (X.env :: X.outer) a (Zc cls d) X.env.locals s'.heap := by rw [← hs]; exact sky
    show wpAny (model X.prog X.w) X.A (noteFrame (.ref a) X.env) _ _ _
    refine Sky.land Zc.steady frX hf sky' fun h3 fl3 up3 => ?_
    have J3 : Inv X pins σ' H' { s' with heap := h3 } := J.landed nb fl3.1 (up.trans up3) os ag
    obtain ⟨oe3, vs3, he3, hz3, hd3⟩ := fl3.there
    have apart : a ∉ frs (X.env :: X.outer) := fun hm => by
      obtain ⟨_, o', e', hnf⟩ := fl3.2.2.1.mem hm
      rw [he3] at e'
      cases e'
      exact hnf _ hd3
    have nL : a ≠ X.env.locals := fun z => apart (List.mem_filterMap.mpr ⟨X.env, List.mem_cons_self, by rw [hf, z]⟩)
    have nF : a ∉ X.fs := fun hm => by
      obtain ⟨e, he, y⟩ := List.mem_filterMap.mp hm
      exact apart (List.mem_filterMap.mpr ⟨e, List.mem_cons_of_mem _ he, y⟩)
    have S3 := J3.suite he3 hd3 na nL nF
    have look : Looks (model X.prog X.w) h3 (typeOf (.ref a)) cls := fun A Q E s k z => wpAny_typeOf_ref (k _ _ he3) (by rw [hz3.1]; exact z)
    have go : ∀ {hs' : List ExceptHandler} {ls : List (Value × (Addr → Value → Option Addr → TS))}, HdsN X i n hs' ls → wAll X.K Wout i D ls cls d σ' H' →
        wpAny (model X.prog X.w) X.A (handleBy (.ref a) X.env hs') (SP X pins D) X.xe { s' with heap := h3 } := by
      intro hs' ls hk
      induction hk with
      | nil =>
        intro z
        refine wpAny_handleBy_nil ?_
        obtain ⟨k1, k2, k3, oe, vs, T, oT, ts', he, hz, hd, h1, hr⟩ := id fl3
        unfold PySem.passOn
        refine wpAny_bind (wpAny_field he hd h1 ?_)
        rw [if_neg (show ¬ ((Value.ref T == Value.none) = true) from by simp)]
        have fin : wpAny (model X.prog X.w) X.A (setFlight (.ref a) X.env.frame) (fun _ s4 => wpAny (model X.prog X.w) X.A (throw (.ref a) : Sem Flow) (SP X pins D) X.xe s4) X.xe { s' with heap := h3 } := by
          rw [hf]
          refine HandSPX.setFlight_upZ fl3 fun h4 hh4 up4 => wpAny_throw (tk _ _ ?_)
          exact ⟨a, B, sI, pins, σ', H', cls, d, rfl, J, nb, (up.trans up3).trans up4, .inr (.inr (by rw [hs]; exact hh4)), na, os, ag, z⟩
        first
          | exact wpAny_bind (wpAny_pure (wpAny_bind fin))
          | exact wpAny_bind fin
      | @cons x c ts b₀ suite np pos' more lm hc hsu rest ih =>
        intro z
        obtain ⟨b, ans, yes, no⟩ := z
        refine wpAny_handleBy_cons (codeAny_handlers_test ?_) (by intro y; cases y)
        have LM := exm_one (M := model X.prog X.w) (J3.kIn) look ans
        have test : ∀ {Q : Value → Shared → Prop} {E : Value → Shared → Prop}, Q c { s' with heap := h3 } → wpAny (model X.prog X.w) (X.A.mark (some (.ref a))) (eval (.Name x np) X.env) Q E { s' with heap := h3 } := fun {Q E} y => by
          obtain ⟨hg, hdbg, hm | ⟨hm, hv, hnn⟩⟩ := hc
          · exact ld_glob (X := X.suite a ((a, oe3) :: (X.pn ++ pins))) S3 hg hm y hdbg
          · exact ld_blt (X := X.suite a ((a, oe3) :: (X.pn ++ pins))) S3 hg hm hv y hnn hdbg
        refine test (LM.here ?_)
        cases b with
        | false =>
          show wpAny _ X.A (handleBy (.ref a) X.env more) _ _ _
          exact ih (no rfl)
        | true =>
          refine codeAny_handlers_suite_as ?_
          refine HandSPX.lands_againZ fl3 fun h4 fl4 up4 => ?_
          have J4 : Inv X pins σ' H' { s' with heap := h4 } := J.landed nb fl4.1 ((up.trans up3).trans up4) os ag
          obtain ⟨oe4, vs4, he4, hz4, hd4⟩ := fl4.there
          have S4 := J4.suite he4 hd4 na nL nF
          refine store_ok (X := X.suite a ((a, oe4) :: (X.pn ++ pins))) (v := .ref a) S4 hN hi (.inl hln) rfl (fun s5 S5 => ?_) (.inr hln)
          refine wpAny_mono ((hsu a oe4 cls d (X.pn ++ pins) hz4 ⟨_, hd4⟩).run [] s5 _ H' _ S5 (yes rfl a na)) (fun fl s6 out => ?_) (fun _ _ y => False.elim y)
          have off : ∀ {σ6 : L2.St} {H6 : Hp} {Q : Shared → Prop}, Inv (X.suite a ((a, oe4) :: (X.pn ++ pins))) [] σ6 H6 s6 → (∀ s7, Inv X pins (σ6.set i none) H6 s7 → Q s7) →
              wpAny (model X.prog X.w) X.A (do bindName X.env n .none; unbindBehindTheSuite X.env n pos') (fun _ s7 => Q s7) X.xe s6 := fun {σ6 H6 Q} S6 hq => gone_ok (S6.unsuite okX) hN hi hln hq
          cases fl with
          | next =>
            obtain ⟨σ6, H6, S6, q6⟩ := out
            exact off S6 fun s7 J7 => ⟨_, _, J7, q6⟩
          | brk =>
            obtain ⟨σ6, H6, S6, q6⟩ := out
            exact off S6 fun s7 J7 => ⟨_, _, J7, q6⟩
          | cont =>
            obtain ⟨σ6, H6, S6, q6⟩ := out
            exact off S6 fun s7 J7 => ⟨_, _, J7, q6⟩
          | ret u =>
            obtain ⟨v6, σ6, H6, S6, r6, q6⟩ := out
            exact off S6 fun s7 J7 => ⟨_, _, _, J7, r6, q6⟩
    exact go hh wish
  · cases fl with
    | next =>
      obtain ⟨σ1, H1, J1, q⟩ := out
      exact wpAny_execs_nil ⟨σ1, H1, J1.ofTry okX, q⟩
    | brk =>
      obtain ⟨σ1, H1, J1, q⟩ := out
      exact ⟨σ1, H1, J1.ofTry okX, q⟩
    | cont =>
      obtain ⟨σ1, H1, J1, q⟩ := out
      exact ⟨σ1, H1, J1.ofTry okX, q⟩
    | ret u =>
      obtain ⟨v, σ1, H1, J1, r, q⟩ := out
      exact ⟨v, σ1, H1, J1.ofTry okX, r, q⟩
end
/-! ### a def called where p's exception is handled -/
structure FnU (P : Program) (w : World) (K : Frag) (mg : Str → Option Value) (base : Heap) (CX : CXT) (k : Nat) (f : Addr) (fd : FuncData) (ps : List Str) (p : Addr × Obj) (sp : Sp) : Prop where
  len : ∀ vs H Q E, sp vs H Q E → vs.length = ps.length
  run : ∀ (A : Around) (outer : List Env) (s : Shared) (H : Hp) (args : Args) (us : List Value) (vs : List V) (Q : VK) (E : XK), L2H.RoomH k A → L2H.PinOk outer H s p → Env0 P w K mg base A outer s H → BindsTo s fd args (ps.zip us) → Vals vs us → sp vs H Q E →
    codeAny (model P w) A (.call (.ref f) args) (CR CX outer P w H s Q E) s
theorem fnU_of {CX : CXT} {P : Program} {w : World} {K : Frag} {mg : Str → Option Value} {base : Heap} {k : Nat} {f : Addr} {fd : FuncData} {name qual : Str} {params : Arguments} {body : List Stmt} {scope : Scope} {dvs : List V} {kws : List (Str × V)} {N ps : List Str} {p : Addr × Obj} {sp : Sp}
    (F : FunD K name qual params body scope dvs kws f fd) (S : FnScope N ps scope) (len : ∀ vs H Q E, sp vs H Q E → vs.length = ps.length)
    (walk : ∀ (cdv : Value) (A : Around) (outer : List Env) (s : Shared) (H : Hp) (vs : List V) (Q : VK) (E : XK), L2H.RoomH k (A.deeper (envOfC qual scope s.heap.objs.size f cdv)) → sp vs H Q E →
      ∃ t, PSs (L2H.cxH CX P w K mg base N qual scope f cdv A outer s H E p) body t ∧ t { nx := fun _ H' => Q .non H', rt := Q } (L2.start N vs) H) : FnU P w K mg base CX (k + 1) f fd ps p sp := by
  obtain ⟨oc, od, dV, kV, doc, pm, an, cdv, ct, osl, rfl, lk, hcd, _, _⟩ := F.ex
  refine ⟨len, fun A outer s H args us vs Q E room pin e0 bind rv hsp => ?_⟩
  have hl := len _ _ _ _ hsp
  have KX : K.In s.heap := e0.mod.kin.keeps fun b o e => (e0.bs b o e).1
  have lim : s.heap.NoLimit := e0.mod.nolimit.keeps fun b o e => (e0.bs b o e).1
  refine codeAny_call_function room.depth (KX _ _ lk) rfl S.co S.gen rfl (codeRec_of KX hcd) (bind _ _ _ _ ?_)
  refine wpAny_newFunctionEnv_cells S.kind (fun ⟨y, v⟩ hy => ?_) fun env he s1 x => ?_
  · rcases S.par y (List.of_mem_zip hy).1 with z | z
    · exact .inl z
    · exact .inr ⟨z, cellsFrom_some _ _ _ (.inl z)⟩
  subst he
  refine ⟨lim.keeps x.toInCall.keep, codeAny_func ?_⟩
  obtain ⟨t, ht, hq⟩ := walk cdv A outer s H vs Q E (room.deeper _) hsp
  have I : Inv (L2H.cxH CX P w K mg base N qual scope f cdv A outer s H E p) [] (L2.start N vs) H s1 := L2H.inv_startH S pin e0 hl rv x
  refine wpAny_mono (ht.run [] s1 (L2.start N vs) H _ I hq) (fun fl s' out => ?_) fun e s' z => z
  cases fl with
  | ret u =>
    obtain ⟨v, σ', H', J, r', q⟩ := out
    exact ⟨v, H', J.os, J.bare, J.base, J.hok, r', q⟩
  | next =>
    obtain ⟨σ', H', J, q⟩ := out
    exact ⟨.non, H', J.os, J.bare, J.base, J.hok, rfl, q⟩
  | brk =>
    obtain ⟨_, _, _, q⟩ := out
    exact q.elim
  | cont =>
    obtain ⟨_, _, _, q⟩ := out
    exact q.elim
theorem pe_callU {X : Cx} {CX : CXT} {k : Nat} {f : Addr} {fd : FuncData} {ps : List Str} {p : Addr × Obj} {sp : Sp} {E : XK} {x : Str} {q pos : Pos} {e : Expr} {es : List Expr} {t : TA} (F : ∀ vs H Q, sp vs H Q E → ∃ sp', FnU X.prog X.w X.K X.mg X.base CX k f fd ps p sp' ∧ sp' vs H Q E) (room : L2H.RoomH k X.A) (hp : p ∈ X.pn) (hg : Gl X x)
    (hm : X.mg x = some (.ref f)) (hk : keepIn X.K (.ref f) = true) (hb : Binds X.K fd ps []) (hx : Passes CX X E) (ha : PA X (e :: es) t) (hdb : (x == ("__debug__" : Str)) = false := by decide)
    (he : starEach (e :: es) X.env = (false, eval e X.env) :: starEach es X.env := by rfl) (hpl : (backTo pos (starEach es X.env)).any (·.1) = false := by rfl) : PE X (.Call (.Name x q) (e :: es) [] pos) (tCall sp [] E t) := by
  refine ⟨fun pins s σ H Q I h => ?_⟩
  refine wpAny_Call_Name_kw (ld_glob I hg hm ?_ hdb)
  refine callWith_K (h₀ := X.base) I.ok.mod.kin hk (thn (ha.run pos pins s σ H _ I h) fun us s1 ⟨vs, H1, J, rv, hsp⟩ => ⟨J.kIn, ?_⟩) he hpl
  have hsp : sp vs H1 Q E := by
    have z : sp (vs ++ []) H1 Q E := hsp
    rw [List.append_nil] at z
    exact z
  obtain ⟨sp', F, hsp⟩ := F _ _ _ hsp
  have hl : us.length = ps.length := by rw [← rv.length]; exact F.len _ _ _ _ hsp
  have b := hb s1 us J.kIn (by rw [List.append_nil]; exact hl)
  rw [List.append_nil] at b
  have y := J.pin p (List.mem_append_left _ hp)
  have pin : L2H.PinOk X.stack H1 s1 p := ⟨y.1, y.2.1, fun hm => (List.mem_cons.mp (J.stkSub p.1 hm)).elim y.2.2.1 y.2.2.2.1, y.2.2.2.2⟩
  show wpAny _ _ (call (.ref f) us) _ _ _
  refine wpAny_call (codeAny_mono (F.run X.A X.stack s1 H1 ⟨us, []⟩ us vs Q E room pin J.env0 b rv hsp) fun r s' z => ?_)
  cases r with
  | error e => exact hx pins σ H1 s1 e s' J z
  | ok fl =>
    cases fl with
    | ret u => exact J.after z
    | next => exact z.elim
    | brk => exact z.elim
    | cont => exact z.elim
end EX
/-! X5: a law whose walk wants to know the caller (its guards): the promise at callerA alone, and the head's end by it. -/
namespace EX
open PySem PySem.Spec PySem.W PySem.Calls PyProof.Rows L2
/-- the promise of a law's def, called by the judge -/
def TopOk (P : Program) (w : World) (K : Frag) (mg : Str → Option Value) (base : Heap) (f : Addr) (fd : FuncData) (ps : List Str) (sp : Sp) : Prop :=
  ∀ (s : Shared) (H : Hp) (us : List Value) (vs : List V) (Q : VK) (E : XK), Env0 P w K mg base callerA [] s H → BindsTo s fd ⟨us, []⟩ (ps.zip us) → Vals vs us → sp vs H Q E → codeAny (model P w) callerA (.call (.ref f) ⟨us, []⟩) (CR CX0 [] P w H s Q E) s
theorem topOk_of {P : Program} {w : World} {K : Frag} {mg : Str → Option Value} {base : Heap} {k : Nat} {f : Addr} {fd : FuncData} {name qual : Str} {params : Arguments} {body : List Stmt} {scope : Scope} {dvs : List V} {kws : List (Str × V)} {N ps : List Str} {sp : Sp}
    (F : FunD K name qual params body scope dvs kws f fd) (S : FnScope N ps scope) (room : Room (k + 1) callerA) (len : ∀ vs H Q E, sp vs H Q E → vs.length = ps.length)
    (walk : ∀ (cdv : Value) (s : Shared) (H : Hp) (vs : List V) (Q : VK) (E : XK), Room k (callerA.deeper (envOfC qual scope s.heap.objs.size f cdv)) → sp vs H Q E →
      ∃ t, PSs (cxOf CX0 P w K mg base N qual scope f cdv callerA [] s H E) body t ∧ t { nx := fun _ H' => Q .non H', rt := Q } (L2.start N vs) H) : TopOk P w K mg base f fd ps sp := by
  obtain ⟨oc, od, dV, kV, doc, pm, an, cdv, ct, osl, rfl, lk, hcd, _, _⟩ := F.ex
  intro s H us vs Q E e0 bind rv hsp
  have inK : K.In s.heap := e0.mod.kin.keeps fun b o e => (e0.bs b o e).1
  have free : s.heap.NoLimit := e0.mod.nolimit.keeps fun b o e => (e0.bs b o e).1
  refine codeAny_call_function room.depth (inK _ _ lk) rfl S.co S.gen rfl (codeRec_of inK hcd) (bind _ _ _ _ ?_)
  refine wpAny_newFunctionEnv_cells S.kind (fun ⟨y, v⟩ hy => ?_) fun env he s1 x => ?_
  · rcases S.par y (List.of_mem_zip hy).1 with z | z
    · exact .inl z
    · exact .inr ⟨z, cellsFrom_some _ _ _ (.inl z)⟩
  subst he
  refine ⟨free.keeps x.toInCall.keep, codeAny_func ?_⟩
  obtain ⟨t, ht, hq⟩ := walk cdv s H vs Q E (room.deeper _) hsp
  have I : Inv (cxOf CX0 P w K mg base N qual scope f cdv callerA [] s H E) [] (L2.start N vs) H s1 := inv_start S room.hd e0 (len _ _ _ _ hsp) rv x
  refine wpAny_mono (ht.run [] s1 (L2.start N vs) H _ I hq) (fun fl s' out => ?_) fun e s' z => z
  cases fl with
  | ret u =>
    obtain ⟨v, σ', H', J, r', q⟩ := out
    exact ⟨v, H', J.os, J.bare, J.base, J.hok, r', q⟩
  | next =>
    obtain ⟨σ', H', J, q⟩ := out
    exact ⟨.non, H', J.os, J.bare, J.base, J.hok, rfl, q⟩
  | brk =>
    obtain ⟨_, _, _, q⟩ := out
    exact q.elim
  | cont =>
    obtain ⟨_, _, _, q⟩ := out
    exact q.elim
/-- the script alone, known to its object, stands in the heap that we begin with -/
def H1st (a : Addr) (o : HO) : Hp := fun b => if b = a then some o else none
theorem h1st_at {a : Addr} {o : HO} : H1st a o a = some o := if_pos rfl
theorem h1st_off {a b : Addr} {o : HO} (h : b ≠ a) : H1st a o b = none := if_neg h
theorem top_call {P : Program} {w : World} {K : Frag} {mg mb : Str → Option Value} {fa a : Addr} {fd : FuncData} {x : Str} {sp : Sp} {s₁ : Shared} {vs : List Value} {ns : List Int}
    (inK : K.In s₁.heap) (gl : s₁.heap.Ns mainGlobals mg) (bl : s₁.heap.Ns builtinsNs mb) (bb : ∀ x : Str, x ≠ "__name__" → mb x = bootBuiltins x) (free : s₁.heap.NoLimit) (gens : s₁.gens = #[])
    (ha : s₁.heap.get? a = some { cls := .type "list", data := .seq vs.toArray }) (hi : IntsAre vs ns) (hl : ns.length ≤ sizeLine)
    (F : ∀ base : Heap, K.In base → base.Ns mainGlobals mg → TopOk P w K mg base fa fd [x] sp) (bind : ∀ (s : Shared) (u : Value), BindsTo s fd ⟨[u], []⟩ [(x, u)])
    (hsp : ∀ H : Hp, Only H → SqL K H a (ns.map V.int) → sp [.ref a] H (fun v _ => v = .bl true) fun _ _ _ => False) :
    codeAny (model P w) callerA (.call (.ref fa) ⟨[.ref a], []⟩) (fun r s' => r = .ok (.ret (.bool true)) ∧ OldK s₁.heap s'.heap ∧ s'.os = s₁.os ∧ AllBare s'.gens) s₁ := by
  have rv := vals_ints hi
  have go : ∀ H : Hp, Only H → SqL K H a (ns.map V.int) → HOk P w H s₁.heap → (∀ b, b ≠ a → H b = none) → (K.lookup a ≠ none → H a = none) →
      codeAny (model P w) callerA (.call (.ref fa) ⟨[.ref a], []⟩) (fun r s' => r = .ok (.ret (.bool true)) ∧ OldK s₁.heap s'.heap ∧ s'.os = s₁.os ∧ AllBare s'.gens) s₁ := by
    intro H only sq hok out inside
    have dicts : ∀ {b : Addr} {o : Obj} {es : Array DictEntry} {ep : Nat}, s₁.heap.get? b = some o → o.data = .dict es ep → H b = none := fun {b o es ep} e d => by
      refine out b fun z => ?_
      rw [z, ha] at e
      cases e
      first | done | cases d
    have keepsNs : ∀ {b : Addr} {m : Str → Option Value}, s₁.heap.Ns b m → (hidT s₁.heap H).Ns b m := fun ⟨o, es, ep, e, d, r⟩ => ⟨o, es, ep, hidT_get e (dicts e d), d, r⟩
    have inB : K.In (hidT s₁.heap H) := fun b o e => hidT_get (inK b o e) (by
      by_cases z : b = a
      · subst z
        exact inside (by rw [e]; exact fun y => nomatch y)
      · exact out b z)
    obtain ⟨ml, f1, f2⟩ := id free
    have md : Mod K mg (hidT s₁.heap H) := ⟨inB, keepsNs gl, ⟨mb, keepsNs bl, bb⟩, ⟨ml, keepsNs f1, f2⟩⟩
    have e0 : Env0 P w K mg (hidT s₁.heap H) callerA [] s₁ H := ⟨rfl, md, fun b o e => of_hidT e, Nat.le_of_eq (hidT_size _ _), trivial, fun b z => (nomatch (show b ∈ ([] : List Addr) from z)), hok, .of_eq gens⟩
    refine codeAny_mono (F _ inB (keepsNs gl) s₁ H [.ref a] [.ref a] _ _ e0 (bind s₁ (.ref a)) (.cons rfl .nil) (hsp H only sq)) fun r s' h => ?_
    cases r with
    | error e => exact (show False from h).elim
    | ok fl =>
     cases fl with
     | next => exact h.elim
     | brk => exact h.elim
     | cont => exact h.elim
     | ret u =>
      obtain ⟨v, H', os, bare, un, hok', rel, q⟩ := h
      have qv : v = .bl true := q
      subst qv
      obtain rfl : u = Value.bool true := rel
      refine ⟨rfl, OldK.of_keep fun b o e => ?_, os, bare⟩
      rcases only b with z | ⟨ob, xs, z⟩
      · exact un.keep b o e z (fun y => nomatch (show b ∈ ([] : List Addr) from y)) (by simp)
      · obtain ⟨y1, _⟩ := hok b _ z
        obtain ⟨y2, _⟩ := hok' b _ (un.frzs b ob _ z)
        rw [e] at y1
        cases y1
        exact y2
  have hlv := hi.length
  cases hk : K.lookup a with
  | some o =>
    have e := inK a o hk
    rw [ha] at e
    cases e
    exact go (fun _ => none) (fun _ => .inl rfl) (.inr ⟨_, vs.toArray, _, hk, rfl, rfl, rfl, by rw [List.size_toArray, hlv]; exact hl, by simpa using rv⟩) (fun b u z => nomatch z) (fun _ _ => rfl) fun _ => rfl
  | none =>
    refine go (H1st a (.frz { cls := .type "list", data := .seq vs.toArray } (.lst (ns.map V.int)))) (fun b => ?_) (.inl (.inr ⟨_, h1st_at⟩)) (fun b u z => ?_) (fun b z => h1st_off z) fun z => absurd hk z
    · by_cases hb : b = a
      · exact .inr ⟨_, _, by rw [hb]; exact h1st_at⟩
      · exact .inl (h1st_off hb)
    · by_cases hb : b = a
      · subst hb
        rw [h1st_at] at z
        cases z
        exact ⟨ha, by rw [List.length_map]; exact hl, vs, _, rv, ha⟩
      · rw [h1st_off hb] at z
        cases z
theorem walk_top {l : OpenLaw} {n : Nat} {q : Program} {loose : List Str} {XP : (Str → Option Value) → Heap → Prop} {YP : World → Heap → Prop} {d : DefRec} {x : Str} (hn : l.most = some n) (hn2 : n ≤ sizeLine) (hdf : d.params.defaults = [])
    (F : ∀ (w : World) (mg : Str → Option Value) (fa : Addr) (h : Heap), YP w h → h.Ns mainGlobals mg → mg d.name = some (.ref fa) →
      ∃ (K : Frag) (fd : FuncData) (sp : Sp), K.In h ∧ (∀ (s : Shared) (u : Value), BindsTo s fd ⟨[u], []⟩ [(x, u)]) ∧
        (∀ (H : Hp) (a : Addr) (ns : List Int), ns.length ≤ n → Only H → SqL K H a (ns.map V.int) → sp [.ref a] H (fun v _ => v = .bl true) fun _ _ _ => False) ∧
        ∀ base : Heap, K.In base → base.Ns mainGlobals mg → TopOk l.prog w K mg base fa fd [x] sp) :
    WalkO q loose XP YP l.row.toRowW d [] (fun f vs => PySem.call f vs) := by
  refine Att.attach_call hn hdf fun w s₀ s₁ mg mb fa o pm cd doc a vs ns G Y ho hd hcd hmg hobj hints hlen hg => ?_
  obtain ⟨K, fd, sp, KX, hb, hsp, hF⟩ := F w mg fa _ Y G.T.g hmg
  exact top_call KX G.T.g G.T.b G.T.builtins G.T.nolimit hg hobj hints (Nat.le_trans hlen hn2) hF hb fun H only sq => hsp H a ns hlen only sq
end EX
/-! law k01: the law's own defs -/
namespace K1
open PySem PySem.Spec PyProof.Rows L2
def top (i : Nat) : Stmt := PySem.Challenge.pw_mapsizes_k01_exceptions.main.body.getD i (.Pass ⟨0, 0, 0, 0⟩)
abbrev FnP (K : PySem.W.Frag) (x : Str) (st : Stmt) (f : Addr) (fd : FuncData) : Prop := FunD K x x (defArgs st) (defBody st) (defScope st) [] [] f fd
/-! ### the box of draws -/
/-- a box stands at p: a great rest, a mixed number, at most n takes by mixing -/
def Box (H : Hp) (p : Addr) (n : Int) : Prop := ∃ a b c : Int, H p = some (.lst [.int a, .int b, .int c]) ∧ 0 ≤ a ∧ 0 ≤ b ∧ b < 2147483563 ∧ 0 ≤ c ∧ c ≤ n
/-- all but p as before -/
def But (p : Addr) (H H' : Hp) : Prop := ∀ b o, b ≠ p → H b = some o → H' b = some o
def spCell (K : PySem.W.Frag) : Sp := fun vs H Q _ => ∃ (a : Addr) (k : Int) (ns : List Int), vs = [.ref a, .int k] ∧ SqL K H a (ns.map V.int) ∧ 0 ≤ k ∧ k ≤ 1000 ∧ ∀ i, Q (.int i) H
def spBox : Sp := fun vs H Q _ => ∃ c : Int, vs = [.int c] ∧ ∀ p H', H p = none → Same H H' → Box H' p 0 → Q (.ref p) H'
def spTake : Sp := fun vs H Q _ => ∃ (p : Addr) (m n : Int), vs = [.ref p, .int m] ∧ Box H p n ∧ n ≤ 1000000 ∧ 0 < m ∧ m < 2 ^ 60 ∧ ∀ d H', 0 ≤ d → d < m → But p H H' → Box H' p (n + 1) → Q (.int d) H'
structure TBox (mg : Str → Option Value) : Prop where
  len : mg "len" = none
  max : mg "max" = none
  int : mg "int" = none
section
variable {P : Program} {w : World} {K : PySem.W.Frag} {mg : Str → Option Value} {base : Heap} {f : Addr} {fd : FuncData}
abbrev sCell : Stmt := top 27
abbrev sBox : Stmt := top 28
abbrev sTake : Stmt := top 29
theorem scCell : FnScope ["_law_script", "_law_k"] ["_law_script", "_law_k"] (defScope sCell) := ⟨rfl, rfl, rfl, by decide +kernel, rfl, by decide +kernel, by decide +kernel⟩
theorem ok_cell (F : FnP K "_law_cell" sCell f fd) (T : TBox mg) : FnOk P w K mg base CX0 1 f fd ["_law_script", "_law_k"] (spCell K) := by
  refine F.ok scCell (fun vs H Q E h => ?_) (fun cdv A outer s H vs Q E hr h => ?_)
  · obtain ⟨a, k, ns, rfl, _⟩ := h
    rfl
  · obtain ⟨a, k, ns, rfl, hS, h0, h1, q⟩ := h
    refine ⟨_, PSs.nox (pss_one (ps_ret (pe_ifExp (pt_cmpR op_lt (pv 1) (pe_callB call_len_seq (by rfl) T.len boot_len (pa_cons (pv 0) pa_nil)) (nomark _))
      (pe_ix ix_list (pv 0) (pv 1) (fun _ _ => rfl)) (pe_op op_add (pe_op op_mul pe_int (pv 1)) pe_int)))), ?_⟩
    refine ⟨_, rfl, _, rfl, a, _, rfl, .inl hS, _, _, rfl, rfl, _, rfl, ite2 (fun h => ?_) fun h => ?_⟩
    · have hk : k.toNat < ns.length := by
        have h' := of_decide_eq_true h
        rw [List.length_map] at h'
        omega
      refine ⟨_, rfl, _, rfl, a, _, k, .int (ns[k.toNat]'hk), rfl, rfl, hS, ?_, q _⟩
      exact at_of (j := k.toNat) (by omega) (by rw [List.getElem?_map, List.getElem?_eq_getElem hk]; rfl)
    · exact ⟨_, rfl, _, _, rfl, rfl, .inl ⟨by decide, by decide⟩, _, _, rfl, rfl, q _⟩
theorem scBox : FnScope ["_law_cell_here"] ["_law_cell_here"] (defScope sBox) := ⟨rfl, rfl, rfl, by decide +kernel, rfl, by decide +kernel, by decide +kernel⟩
theorem ok_box (F : FnP K "_law_box" sBox f fd) (T : TBox mg) : FnOk P w K mg base CX0 1 f fd ["_law_cell_here"] spBox := by
  refine F.ok scBox (fun vs H Q E h => ?_) (fun cdv A outer s H vs Q E hr h => ?_)
  · obtain ⟨c, rfl, _⟩ := h
    rfl
  · obtain ⟨c, rfl, q⟩ := h
    refine ⟨_, PSs.nox (pss_one (ps_ret (pe_lst (pa_cons (pe_callB (call_max2 rfl) (by rfl) T.max (by decide +kernel) (pa_cons pe_int (pa_cons (pe_op op_sub (pv 0) (pe_op op_pow pe_int pe_int)) pa_nil)))
      (pa_cons (pe_op op_mod (pe_callTy call_int1 (by rfl) T.int (by decide +kernel) (pa_cons (pv 0) pa_nil)) pe_int) (pa_cons pe_int pa_nil)))))), ?_⟩
    refine ⟨_, rfl, _, _, rfl, rfl, ⟨by decide, by decide, by decide⟩, _, _, rfl, rfl, _, _, rfl, _, rfl, .inl ⟨_, rfl, _, _, rfl, rfl, (by show (0 : Int) < _; decide), ?_⟩⟩
    refine ⟨by show 3 ≤ sizeLine; decide, fun p hp => q p _ hp (fun b o e => by rw [upd_ne (ne_of_none e hp)]; exact e) ⟨_, _, _, upd_same, ?_, Int.emod_nonneg _ (by decide), Int.emod_lt_of_pos _ (by decide), Int.le_refl _, Int.le_refl _⟩⟩
    split <;> omega
theorem scTake : FnScope ["_law_box_here", "_law_many", "_law_digit", "_law_mixed"] ["_law_box_here", "_law_many"] (defScope sTake) := ⟨rfl, rfl, rfl, by decide +kernel, rfl, by decide +kernel, by decide +kernel⟩
theorem ok_take (F : FnP K "_law_take" sTake f fd) (T : TBox mg) : FnOk P w K mg base CX0 1 f fd ["_law_box_here", "_law_many"] spTake := by
  have nd := scTake.nd
  refine F.ok scTake (fun vs H Q E h => ?_) (fun cdv A outer s H vs Q E hr h => ?_)
  · obtain ⟨p, m, n, rfl, _⟩ := h
    rfl
  · obtain ⟨p, m, n, rfl, ⟨a, b, c, hp, ha, hb, hb2, hc, hc2⟩, hn, hm, hm2, q⟩ := h
    have i0 : ∀ (a b c : V), atI [a, b, c] 0 = some a := fun _ _ _ => rfl
    have i1 : ∀ (a b c : V), atI [a, b, c] 1 = some b := fun _ _ _ => rfl
    have i2 : ∀ (a b c : V), atI [a, b, c] 2 = some c := fun _ _ _ => rfl
    refine ⟨_, PSs.nox (pss_cons (ps_if (pt_cmpR op_gt (pe_ix ix_list (pv 0) pe_int (fun _ _ => rfl)) pe_int (nomark _))
        (pss_cons (ps_set (i := 2) nd rfl (.inl rfl) (pe_op op_mod (pe_callTy call_int1 (by rfl) T.int (by decide +kernel) (pa_cons (pe_ix ix_list (pv 0) pe_int (fun _ _ => rfl)) pa_nil)) (pv 1)))
          (pss_cons (ps_asg (pe_op op_fdivW (pe_ix ix_list (pv 0) pe_int (fun _ _ => rfl)) (pv 1)) (pg_sub (pv 0) pe_int set_list))
            (pss_one (ps_ret (pv 2))))) pss_nil)
      (pss_cons (ps_asg (pe_op op_add (pe_ix ix_list (pv 0) pe_int (fun _ _ => rfl)) pe_int) (pg_sub (pv 0) pe_int set_list))
        (pss_cons (ps_set (i := 3) nd rfl (.inl rfl) (pe_op op_mod (pe_op op_pow (pe_callTy call_int1 (by rfl) T.int (by decide +kernel) (pa_cons (pe_op op_add (pe_op op_add (pe_ix ix_list (pv 0) pe_int (fun _ _ => rfl)) (pe_op op_mul pe_int (pe_ix ix_list (pv 0) pe_int (fun _ _ => rfl)))) pe_int) pa_nil)) pe_int) pe_int))
          (pss_cons (ps_set (i := 3) nd rfl (.inl rfl) (pe_op op_mod (pe_op op_pow (pe_callTy call_int1 (by rfl) T.int (by decide +kernel) (pa_cons (pe_op op_add (pv 3) (pe_op op_mul pe_int (pe_ix ix_list (pv 0) pe_int (fun _ _ => rfl)))) pa_nil)) pe_int) pe_int))
            (pss_one (ps_ret (pe_op op_mod (pe_op op_fdiv (pv 3) pe_int) (pv 1)))))))), ?_⟩
    refine ⟨_, rfl, p, _, 0, _, rfl, rfl, SqL.of hp, i0 _ _ _, _, _, rfl, rfl, _, rfl, ite2 (fun h => ?_) fun h => ?_⟩
    · have hpos : 0 < a := of_decide_eq_true h
      refine ⟨_, rfl, p, _, 0, _, rfl, rfl, SqL.of hp, i0 _ _ _, .inl ⟨_, rfl, _, rfl, _, _, rfl, rfl, hm, ?_⟩⟩
      refine ⟨_, rfl, p, _, 0, _, rfl, rfl, SqL.of hp, i0 _ _ _, _, rfl, _, _, rfl, rfl, wide_div (b := 60) hm (by omega) (by decide) (by decide), ?_⟩
      refine ⟨_, rfl, p, _, 0, 0, rfl, rfl, hp, rfl, ?_⟩
      refine ⟨_, rfl, q _ _ (Int.emod_nonneg _ (by omega)) (Int.emod_lt_of_pos _ hm) (fun b o hb e => by rw [upd_ne hb]; exact e) ⟨a / m, b, c, upd_same, Int.ediv_nonneg ha (by omega), hb, hb2, hc, by omega⟩⟩
    · refine ⟨_, rfl, p, _, 2, _, rfl, rfl, SqL.of hp, i2 _ _ _, _, _, rfl, rfl, ?_⟩
      refine ⟨_, rfl, p, _, 2, 2, rfl, rfl, hp, rfl, ?_⟩
      have hp2 : (upd H p (.lst [.int a, .int b, .int (c + 1)])) p = some (.lst [.int a, .int b, .int (c + 1)]) := upd_same
      refine ⟨_, rfl, p, _, 1, _, rfl, rfl, SqL.of hp2, i1 _ _ _, _, rfl, p, _, 2, _, rfl, rfl, SqL.of hp2, i2 _ _ _, _, _, rfl, rfl, .inl ⟨by decide, by decide⟩, _, _, rfl, rfl, _, _, rfl, rfl, .inl ⟨_, rfl, _, _, rfl, rfl, ⟨by decide, by decide, ?_⟩, _, _, rfl, rfl, (by show (0 : Int) < _; decide), ?_⟩⟩
      · omega
      have e1 : 0 ≤ (b + 7333 * (c + 1) + 211) ^ (5 : Int).toNat % 2147483647 := Int.emod_nonneg _ (by decide)
      have e2 : (b + 7333 * (c + 1) + 211) ^ (5 : Int).toNat % 2147483647 < 2147483647 := Int.emod_lt_of_pos _ (by decide)
      generalize (b + 7333 * (c + 1) + 211) ^ (5 : Int).toNat % 2147483647 = x at e1 e2
      refine ⟨_, rfl, _, rfl, p, _, 2, _, rfl, rfl, SqL.of hp2, i2 _ _ _, _, _, rfl, rfl, .inl ⟨by decide, by decide⟩, _, _, rfl, rfl, .inl ⟨_, rfl, _, _, rfl, rfl, ⟨by decide, by decide, ?_⟩, _, _, rfl, rfl, (by show (0 : Int) < _; decide), ?_⟩⟩
      · omega
      refine ⟨_, rfl, _, _, rfl, rfl, ⟨by decide, by decide⟩, _, rfl, _, _, rfl, rfl, hm, ?_⟩
      exact q _ _ (Int.emod_nonneg _ (by omega)) (Int.emod_lt_of_pos _ hm) (fun b o hb e => by rw [upd_ne hb]; exact e) ⟨a, b, c + 1, upd_same, ha, hb, hb2, by omega, by omega⟩
end
end K1
/-! law k01: the exceptions made, asked, read -/
namespace K1
open PySem PySem.Spec PyProof.Rows L2 EX He XH
/-- what the rules want of the class named x: n arguments (keywords ks), its fields by them -/
structure XM (P : Program) (w : World) (K : PySem.W.Frag) (mg : Str → Option Value) (base : Heap) (x : Str) (n : Nat) (ks : List Str) (g : List V → List (Str × V)) : Prop where
  ex : ∃ newId initId B bmB fI fd ps, ExcBaseFacts B newId initId bmB ∧ Cl K (ga K x) newId bmB ∧ PySem.W.findIn K (.ref (ga K x)) "__init__" = some (some (.ref fI)) ∧ PySem.W.isFn K (.ref fI) = true ∧ FnOk P w K mg base CX0 1 fI fd ps (spX (ga K x) n g) ∧
    Binds K fd ps [] ∧ ps.length = n + 1 ∧ ∀ (s' : Shared) (a : Addr) (ws : List Value), ws.length = n → BindsTo s' fd ⟨[.ref a], ks.zip ws⟩ (ps.zip (.ref a :: ws))
  mgC : mg x = some (.ref (ga K x))
  ec : ExcC K (ga K x)
  no : ∀ f ∈ ks, PySem.W.findIn K (.ref (ga K x)) f = some none
section
variable {X : Cx} {x : Str} {n : Nat} {ks : List Str} {g : List V → List (Str × V)} {p pos : Pos} {e : Expr} {es : List Expr} {kws : List Keyword} {ta tk : TA}
theorem pe_X (M : XM X.prog X.w X.K X.mg X.base x n ks g) (hn : n ≤ 1000) (hr : Room 2 X.A) (hg : Gl X x) (ha : PA X (e :: es) ta) (hdb : (x == ("__debug__" : Str)) = false := by decide) (he : starEach (e :: es) X.env = (false, eval e X.env) :: starEach es X.env := by rfl)
    (hpl : (backTo pos (starEach es X.env)).any (·.1) = false := by rfl) : PE X (.Call (.Name x p) (e :: es) [] pos) (tMkX (ga X.K x) n g ta) := by
  obtain ⟨newId, initId, B, bmB, fI, fd, ps, h1, h2, h3, h4, h5, h6, h7, h8⟩ := M.ex
  exact pe_mkx h1 h2 h3 h4 h5 h6 h7 hr pass0 hg M.mgC hn ha hdb he hpl
theorem pe_X0 (M : XM X.prog X.w X.K X.mg X.base x 0 ks g) (hr : Room 2 X.A) (hg : Gl X x) (hdb : (x == ("__debug__" : Str)) = false := by decide) : PE X (.Call (.Name x p) [] [] pos) (tMkX (ga X.K x) 0 g tNil) := by
  obtain ⟨newId, initId, B, bmB, fI, fd, ps, h1, h2, h3, h4, h5, h6, h7, h8⟩ := M.ex
  exact pe_mkx0 h1 h2 h3 h4 h5 h6 h7 hr pass0 hg M.mgC hdb
theorem pe_Xk (M : XM X.prog X.w X.K X.mg X.base x n ks g) (hr : Room 2 X.A) (hg : Gl X x) (hkw : PK X kws tk) (hall : (backToKw pos (keywordEach kws X.env)).all (·.1.isSome) = true := by rfl)
    (hks : (backToKw pos (keywordEach kws X.env)).filterMap (·.1) = ks := by rfl) (hdb : (x == ("__debug__" : Str)) = false := by decide) (hpl : ((backTo pos (starEach [] X.env)).any (·.1) || (backToKw pos (keywordEach kws X.env)).any (·.1.isNone)) = false := by rfl) :
    PE X (.Call (.Name x p) [] kws pos) (tMkX (ga X.K x) n g tk) := by
  obtain ⟨newId, initId, B, bmB, fI, fd, ps, h1, h2, h3, h4, h5, h6, h7, h8⟩ := M.ex
  exact pe_mkxk h1 h2 h3 h4 h5 h8 hr pass0 hg M.mgC hkw hall hks hdb hpl
end
def g1 (f : Str) : List V → List (Str × V) := fun ws => [(f, ws.getD 0 .non)]
def g2 (f1 f2 : Str) : List V → List (Str × V) := fun ws => [(f2, ws.getD 1 .non), (f1, ws.getD 0 .non)]
def g0 : List V → List (Str × V) := fun _ => []
structure TX (P : Program) (w : World) (K : PySem.W.Frag) (mg : Str → Option Value) (base : Heap) : Prop where
  m0 : XM P w K mg base "InvalidInteger" 1 ["value"] (g1 "value")
  m1 : XM P w K mg base "InvalidName" 1 ["value"] (g1 "value")
  m2 : XM P w K mg base "InvalidPlace" 1 ["value"] (g1 "value")
  m3 : XM P w K mg base "InvalidPlaces" 1 ["value"] (g1 "value")
  m4 : XM P w K mg base "InvalidFact" 1 ["value"] (g1 "value")
  m5 : XM P w K mg base "InvalidFacts" 1 ["value"] (g1 "value")
  m6 : XM P w K mg base "InvalidSetting" 1 ["value"] (g1 "value")
  m7 : XM P w K mg base "InvalidStep" 1 ["value"] (g1 "value")
  m8 : XM P w K mg base "InvalidHand" 1 ["value"] (g1 "value")
  m9 : XM P w K mg base "InvalidProgram" 1 ["value"] (g1 "value")
  m10 : XM P w K mg base "InvalidWeaving" 1 ["value"] (g1 "value")
  m11 : XM P w K mg base "InvalidPattern" 1 ["value"] (g1 "value")
  m12 : XM P w K mg base "InvalidStates" 1 ["value"] (g1 "value")
  m13 : XM P w K mg base "InvalidGuard" 1 ["value"] (g1 "value")
  m14 : XM P w K mg base "InvalidGuards" 1 ["value"] (g1 "value")
  m15 : XM P w K mg base "InvalidText" 1 ["value"] (g1 "value")
  m16 : XM P w K mg base "InvalidLine" 1 ["index"] (g1 "index")
  m17 : XM P w K mg base "InvalidCommand" 1 ["value"] (g1 "value")
  m18 : XM P w K mg base "Unordered" 2 ["left", "right"] (g2 "left" "right")
  m19 : XM P w K mg base "NotReady" 1 ["hand"] (g1 "hand")
  m20 : XM P w K mg base "NoProgram" 0 [] g0
  m21 : XM P w K mg base "NothingToUndo" 0 [] g0
  m22 : XM P w K mg base "NoTrial" 0 [] g0
/-- the classes in the order of the law, with their fields -/
def tab (t : V) : List (Str × List (Str × V)) := [("InvalidInteger", [("value", t)]), ("InvalidName", [("value", t)]), ("InvalidPlace", [("value", t)]), ("InvalidPlaces", [("value", t)]), ("InvalidFact", [("value", t)]), ("InvalidFacts", [("value", t)]), ("InvalidSetting", [("value", t)]), ("InvalidStep", [("value", t)]), ("InvalidHand", [("value", t)]), ("InvalidProgram", [("value", t)]), ("InvalidWeaving", [("value", t)]), ("InvalidPattern", [("value", t)]), ("InvalidStates", [("value", t)]), ("InvalidGuard", [("value", t)]), ("InvalidGuards", [("value", t)]), ("InvalidText", [("value", t)]), ("InvalidLine", [("index", t)]), ("InvalidCommand", [("value", t)]), ("Unordered", [("right", t), ("left", t)]), ("NotReady", [("hand", t)]), ("NoProgram", []), ("NothingToUndo", []), ("NoTrial", [])]
/-- exceptions of these classes and fields stand at these addresses -/
def Exs (K : PySem.W.Frag) (H : Hp) (es : List Addr) (l : List (Str × List (Str × V))) : Prop := Paired (fun a q => IsX H a (ga K q.1) q.2) es l
def spMade (K : PySem.W.Frag) : Sp := fun vs H Q _ => ∃ t : V, vs = [t] ∧ ∀ (p : Addr) (es : List Addr) (H' : Hp), Same H H' → H' p = some (.lst (es.map V.ref)) → Exs K H' es (tab t) → Q (.ref p) H'
section
variable {P : Program} {w : World} {K : PySem.W.Frag} {mg : Str → Option Value} {base : Heap} {f : Addr} {fd : FuncData}
abbrev sMade : Stmt := top 30
abbrev sNamed : Stmt := top 31
theorem sc_made : FnScope ["_law_thing", "_law_found"] ["_law_thing"] (defScope sMade) := ⟨rfl, rfl, rfl, by decide +kernel, rfl, by decide +kernel, by decide +kernel⟩
theorem ok_made (F : FnP K "_law_made" sMade f fd) (T : TX P w K mg base) : FnOk P w K mg base CX0 3 f fd ["_law_thing"] (spMade K) := by
  have nd := sc_made.nd
  refine F.ok sc_made (fun vs H Q E h => ?_) (fun cdv A outer s H vs Q E hr h => ?_)
  · obtain ⟨t, rfl, _⟩ := h
    rfl
  · obtain ⟨t, rfl, q⟩ := h
    refine ⟨_, PSs.nox (pss_cons (ps_set (i := 1) nd rfl (.inl rfl) (pe_lst (pa_cons (pe_X (T.m0) (by decide) hr rfl (pa_cons (pv 0) pa_nil)) (pa_cons (pe_X (T.m1) (by decide) hr rfl (pa_cons (pv 0) pa_nil)) (pa_cons (pe_X (T.m2) (by decide) hr rfl (pa_cons (pv 0) pa_nil)) (pa_cons (pe_X (T.m3) (by decide) hr rfl (pa_cons (pv 0) pa_nil)) pa_nil))))))
      (pss_cons (ps_set (i := 1) nd rfl (.inl rfl) (pe_op op_cat (pv 1) (pe_lst (pa_cons (pe_X (T.m4) (by decide) hr rfl (pa_cons (pv 0) pa_nil)) (pa_cons (pe_X (T.m5) (by decide) hr rfl (pa_cons (pv 0) pa_nil)) (pa_cons (pe_X (T.m6) (by decide) hr rfl (pa_cons (pv 0) pa_nil)) (pa_cons (pe_X (T.m7) (by decide) hr rfl (pa_cons (pv 0) pa_nil)) pa_nil)))))))
      (pss_cons (ps_set (i := 1) nd rfl (.inl rfl) (pe_op op_cat (pv 1) (pe_lst (pa_cons (pe_X (T.m8) (by decide) hr rfl (pa_cons (pv 0) pa_nil)) (pa_cons (pe_X (T.m9) (by decide) hr rfl (pa_cons (pv 0) pa_nil)) (pa_cons (pe_X (T.m10) (by decide) hr rfl (pa_cons (pv 0) pa_nil)) (pa_cons (pe_X (T.m11) (by decide) hr rfl (pa_cons (pv 0) pa_nil)) pa_nil)))))))
      (pss_cons (ps_set (i := 1) nd rfl (.inl rfl) (pe_op op_cat (pv 1) (pe_lst (pa_cons (pe_X (T.m12) (by decide) hr rfl (pa_cons (pv 0) pa_nil)) (pa_cons (pe_X (T.m13) (by decide) hr rfl (pa_cons (pv 0) pa_nil)) (pa_cons (pe_X (T.m14) (by decide) hr rfl (pa_cons (pv 0) pa_nil)) (pa_cons (pe_X (T.m15) (by decide) hr rfl (pa_cons (pv 0) pa_nil)) pa_nil)))))))
      (pss_cons (ps_set (i := 1) nd rfl (.inl rfl) (pe_op op_cat (pv 1) (pe_lst (pa_cons (pe_X (T.m16) (by decide) hr rfl (pa_cons (pv 0) pa_nil)) (pa_cons (pe_X (T.m17) (by decide) hr rfl (pa_cons (pv 0) pa_nil)) (pa_cons (pe_X (T.m18) (by decide) hr rfl (pa_cons (pv 0) (pa_cons (pv 0) pa_nil))) (pa_cons (pe_X (T.m19) (by decide) hr rfl (pa_cons (pv 0) pa_nil)) pa_nil)))))))
      (pss_cons (ps_set (i := 1) nd rfl (.inl rfl) (pe_op op_cat (pv 1) (pe_lst (pa_cons (pe_X0 (T.m20) hr rfl) (pa_cons (pe_X0 (T.m21) hr rfl) (pa_cons (pe_X0 (T.m22) hr rfl) pa_nil))))))
      (pss_one (ps_ret (pv 1))))))))), ?_⟩
    have S0 : Same H H := Same.refl H
    refine ⟨_, rfl, rfl, fun a1 H1 n1 s1 x1 => ⟨_, rfl, rfl, fun a2 H2 n2 s2 x2 => ⟨_, rfl, rfl, fun a3 H3 n3 s3 x3 => ⟨_, rfl, rfl, fun a4 H4 n4 s4 x4 => ⟨(by show 4 ≤ sizeLine; decide), fun p0 hp0 => ?_⟩⟩⟩⟩⟩
    have u0 : Same H4 (upd H4 p0 (.lst [.ref a1, .ref a2, .ref a3, .ref a4])) := fun b o e => by rw [upd_ne (ne_of_none e hp0)]; exact e
    have y1_0 := x1.same (s2.trans (s3.trans (s4.trans u0)))
    have y2_0 := x2.same (s3.trans (s4.trans u0))
    have y3_0 := x3.same (s4.trans u0)
    have y4_0 := x4.same u0
    have C0 : Same H (upd H4 p0 (.lst [.ref a1, .ref a2, .ref a3, .ref a4])) := S0.trans (s1.trans (s2.trans (s3.trans (s4.trans u0))))
    have M0 : (upd H4 p0 (.lst [.ref a1, .ref a2, .ref a3, .ref a4])) p0 = some (.lst [.ref a1, .ref a2, .ref a3, .ref a4]) := upd_same
    refine ⟨_, rfl, ⟨_, rfl, rfl, fun a5 H5 n5 s5 x5 => ⟨_, rfl, rfl, fun a6 H6 n6 s6 x6 => ⟨_, rfl, rfl, fun a7 H7 n7 s7 x7 => ⟨_, rfl, rfl, fun a8 H8 n8 s8 x8 => ⟨(by show 4 ≤ sizeLine; decide), fun p1 hp1 => ?_⟩⟩⟩⟩⟩⟩
    have u1 : Same H8 (upd H8 p1 (.lst [.ref a5, .ref a6, .ref a7, .ref a8])) := fun b o e => by rw [upd_ne (ne_of_none e hp1)]; exact e
    have y1_1 := y1_0.same (s5.trans (s6.trans (s7.trans (s8.trans u1))))
    have y2_1 := y2_0.same (s5.trans (s6.trans (s7.trans (s8.trans u1))))
    have y3_1 := y3_0.same (s5.trans (s6.trans (s7.trans (s8.trans u1))))
    have y4_1 := y4_0.same (s5.trans (s6.trans (s7.trans (s8.trans u1))))
    have y5_1 := x5.same (s6.trans (s7.trans (s8.trans u1)))
    have y6_1 := x6.same (s7.trans (s8.trans u1))
    have y7_1 := x7.same (s8.trans u1)
    have y8_1 := x8.same u1
    have C1 : Same H (upd H8 p1 (.lst [.ref a5, .ref a6, .ref a7, .ref a8])) := C0.trans (s5.trans (s6.trans (s7.trans (s8.trans u1))))
    have L1 := (s5.trans (s6.trans (s7.trans (s8.trans u1)))) _ _ M0
    refine ⟨_, p1, _, _, rfl, rfl, L1, upd_same, (by show 4 + 4 ≤ sizeLine; decide), fun r1 hr1 => ?_⟩
    have v1 : Same (upd H8 p1 (.lst [.ref a5, .ref a6, .ref a7, .ref a8])) (upd (upd H8 p1 (.lst [.ref a5, .ref a6, .ref a7, .ref a8])) r1 (.lst [.ref a1, .ref a2, .ref a3, .ref a4, .ref a5, .ref a6, .ref a7, .ref a8])) := fun b o e => by rw [upd_ne (ne_of_none e hr1)]; exact e
    have z1_1 := y1_1.same v1
    have z2_1 := y2_1.same v1
    have z3_1 := y3_1.same v1
    have z4_1 := y4_1.same v1
    have z5_1 := y5_1.same v1
    have z6_1 := y6_1.same v1
    have z7_1 := y7_1.same v1
    have z8_1 := y8_1.same v1
    have D1 : Same H (upd (upd H8 p1 (.lst [.ref a5, .ref a6, .ref a7, .ref a8])) r1 (.lst [.ref a1, .ref a2, .ref a3, .ref a4, .ref a5, .ref a6, .ref a7, .ref a8])) := C1.trans v1
    have M1 : (upd (upd H8 p1 (.lst [.ref a5, .ref a6, .ref a7, .ref a8])) r1 (.lst [.ref a1, .ref a2, .ref a3, .ref a4, .ref a5, .ref a6, .ref a7, .ref a8])) r1 = some (.lst [.ref a1, .ref a2, .ref a3, .ref a4, .ref a5, .ref a6, .ref a7, .ref a8]) := upd_same
    refine ⟨_, rfl, ⟨_, rfl, rfl, fun a9 H9 n9 s9 x9 => ⟨_, rfl, rfl, fun a10 H10 n10 s10 x10 => ⟨_, rfl, rfl, fun a11 H11 n11 s11 x11 => ⟨_, rfl, rfl, fun a12 H12 n12 s12 x12 => ⟨(by show 4 ≤ sizeLine; decide), fun p2 hp2 => ?_⟩⟩⟩⟩⟩⟩
    have u2 : Same H12 (upd H12 p2 (.lst [.ref a9, .ref a10, .ref a11, .ref a12])) := fun b o e => by rw [upd_ne (ne_of_none e hp2)]; exact e
    have y1_2 := z1_1.same (s9.trans (s10.trans (s11.trans (s12.trans u2))))
    have y2_2 := z2_1.same (s9.trans (s10.trans (s11.trans (s12.trans u2))))
    have y3_2 := z3_1.same (s9.trans (s10.trans (s11.trans (s12.trans u2))))
    have y4_2 := z4_1.same (s9.trans (s10.trans (s11.trans (s12.trans u2))))
    have y5_2 := z5_1.same (s9.trans (s10.trans (s11.trans (s12.trans u2))))
    have y6_2 := z6_1.same (s9.trans (s10.trans (s11.trans (s12.trans u2))))
    have y7_2 := z7_1.same (s9.trans (s10.trans (s11.trans (s12.trans u2))))
    have y8_2 := z8_1.same (s9.trans (s10.trans (s11.trans (s12.trans u2))))
    have y9_2 := x9.same (s10.trans (s11.trans (s12.trans u2)))
    have y10_2 := x10.same (s11.trans (s12.trans u2))
    have y11_2 := x11.same (s12.trans u2)
    have y12_2 := x12.same u2
    have C2 : Same H (upd H12 p2 (.lst [.ref a9, .ref a10, .ref a11, .ref a12])) := D1.trans (s9.trans (s10.trans (s11.trans (s12.trans u2))))
    have L2 := (s9.trans (s10.trans (s11.trans (s12.trans u2)))) _ _ M1
    refine ⟨_, p2, _, _, rfl, rfl, L2, upd_same, (by show 8 + 4 ≤ sizeLine; decide), fun r2 hr2 => ?_⟩
    have v2 : Same (upd H12 p2 (.lst [.ref a9, .ref a10, .ref a11, .ref a12])) (upd (upd H12 p2 (.lst [.ref a9, .ref a10, .ref a11, .ref a12])) r2 (.lst [.ref a1, .ref a2, .ref a3, .ref a4, .ref a5, .ref a6, .ref a7, .ref a8, .ref a9, .ref a10, .ref a11, .ref a12])) := fun b o e => by rw [upd_ne (ne_of_none e hr2)]; exact e
    have z1_2 := y1_2.same v2
    have z2_2 := y2_2.same v2
    have z3_2 := y3_2.same v2
    have z4_2 := y4_2.same v2
    have z5_2 := y5_2.same v2
    have z6_2 := y6_2.same v2
    have z7_2 := y7_2.same v2
    have z8_2 := y8_2.same v2
    have z9_2 := y9_2.same v2
    have z10_2 := y10_2.same v2
    have z11_2 := y11_2.same v2
    have z12_2 := y12_2.same v2
    have D2 : Same H (upd (upd H12 p2 (.lst [.ref a9, .ref a10, .ref a11, .ref a12])) r2 (.lst [.ref a1, .ref a2, .ref a3, .ref a4, .ref a5, .ref a6, .ref a7, .ref a8, .ref a9, .ref a10, .ref a11, .ref a12])) := C2.trans v2
    have M2 : (upd (upd H12 p2 (.lst [.ref a9, .ref a10, .ref a11, .ref a12])) r2 (.lst [.ref a1, .ref a2, .ref a3, .ref a4, .ref a5, .ref a6, .ref a7, .ref a8, .ref a9, .ref a10, .ref a11, .ref a12])) r2 = some (.lst [.ref a1, .ref a2, .ref a3, .ref a4, .ref a5, .ref a6, .ref a7, .ref a8, .ref a9, .ref a10, .ref a11, .ref a12]) := upd_same
    refine ⟨_, rfl, ⟨_, rfl, rfl, fun a13 H13 n13 s13 x13 => ⟨_, rfl, rfl, fun a14 H14 n14 s14 x14 => ⟨_, rfl, rfl, fun a15 H15 n15 s15 x15 => ⟨_, rfl, rfl, fun a16 H16 n16 s16 x16 => ⟨(by show 4 ≤ sizeLine; decide), fun p3 hp3 => ?_⟩⟩⟩⟩⟩⟩
    have u3 : Same H16 (upd H16 p3 (.lst [.ref a13, .ref a14, .ref a15, .ref a16])) := fun b o e => by rw [upd_ne (ne_of_none e hp3)]; exact e
    have y1_3 := z1_2.same (s13.trans (s14.trans (s15.trans (s16.trans u3))))
    have y2_3 := z2_2.same (s13.trans (s14.trans (s15.trans (s16.trans u3))))
    have y3_3 := z3_2.same (s13.trans (s14.trans (s15.trans (s16.trans u3))))
    have y4_3 := z4_2.same (s13.trans (s14.trans (s15.trans (s16.trans u3))))
    have y5_3 := z5_2.same (s13.trans (s14.trans (s15.trans (s16.trans u3))))
    have y6_3 := z6_2.same (s13.trans (s14.trans (s15.trans (s16.trans u3))))
    have y7_3 := z7_2.same (s13.trans (s14.trans (s15.trans (s16.trans u3))))
    have y8_3 := z8_2.same (s13.trans (s14.trans (s15.trans (s16.trans u3))))
    have y9_3 := z9_2.same (s13.trans (s14.trans (s15.trans (s16.trans u3))))
    have y10_3 := z10_2.same (s13.trans (s14.trans (s15.trans (s16.trans u3))))
    have y11_3 := z11_2.same (s13.trans (s14.trans (s15.trans (s16.trans u3))))
    have y12_3 := z12_2.same (s13.trans (s14.trans (s15.trans (s16.trans u3))))
    have y13_3 := x13.same (s14.trans (s15.trans (s16.trans u3)))
    have y14_3 := x14.same (s15.trans (s16.trans u3))
    have y15_3 := x15.same (s16.trans u3)
    have y16_3 := x16.same u3
    have C3 : Same H (upd H16 p3 (.lst [.ref a13, .ref a14, .ref a15, .ref a16])) := D2.trans (s13.trans (s14.trans (s15.trans (s16.trans u3))))
    have L3 := (s13.trans (s14.trans (s15.trans (s16.trans u3)))) _ _ M2
    refine ⟨_, p3, _, _, rfl, rfl, L3, upd_same, (by show 12 + 4 ≤ sizeLine; decide), fun r3 hr3 => ?_⟩
    have v3 : Same (upd H16 p3 (.lst [.ref a13, .ref a14, .ref a15, .ref a16])) (upd (upd H16 p3 (.lst [.ref a13, .ref a14, .ref a15, .ref a16])) r3 (.lst [.ref a1, .ref a2, .ref a3, .ref a4, .ref a5, .ref a6, .ref a7, .ref a8, .ref a9, .ref a10, .ref a11, .ref a12, .ref a13, .ref a14, .ref a15, .ref a16])) := fun b o e => by rw [upd_ne (ne_of_none e hr3)]; exact e
    have z1_3 := y1_3.same v3
    have z2_3 := y2_3.same v3
    have z3_3 := y3_3.same v3
    have z4_3 := y4_3.same v3
    have z5_3 := y5_3.same v3
    have z6_3 := y6_3.same v3
    have z7_3 := y7_3.same v3
    have z8_3 := y8_3.same v3
    have z9_3 := y9_3.same v3
    have z10_3 := y10_3.same v3
    have z11_3 := y11_3.same v3
    have z12_3 := y12_3.same v3
    have z13_3 := y13_3.same v3
    have z14_3 := y14_3.same v3
    have z15_3 := y15_3.same v3
    have z16_3 := y16_3.same v3
    have D3 : Same H (upd (upd H16 p3 (.lst [.ref a13, .ref a14, .ref a15, .ref a16])) r3 (.lst [.ref a1, .ref a2, .ref a3, .ref a4, .ref a5, .ref a6, .ref a7, .ref a8, .ref a9, .ref a10, .ref a11, .ref a12, .ref a13, .ref a14, .ref a15, .ref a16])) := C3.trans v3
    have M3 : (upd (upd H16 p3 (.lst [.ref a13, .ref a14, .ref a15, .ref a16])) r3 (.lst [.ref a1, .ref a2, .ref a3, .ref a4, .ref a5, .ref a6, .ref a7, .ref a8, .ref a9, .ref a10, .ref a11, .ref a12, .ref a13, .ref a14, .ref a15, .ref a16])) r3 = some (.lst [.ref a1, .ref a2, .ref a3, .ref a4, .ref a5, .ref a6, .ref a7, .ref a8, .ref a9, .ref a10, .ref a11, .ref a12, .ref a13, .ref a14, .ref a15, .ref a16]) := upd_same
    refine ⟨_, rfl, ⟨_, rfl, rfl, fun a17 H17 n17 s17 x17 => ⟨_, rfl, rfl, fun a18 H18 n18 s18 x18 => ⟨_, rfl, _, rfl, rfl, fun a19 H19 n19 s19 x19 => ⟨_, rfl, rfl, fun a20 H20 n20 s20 x20 => ⟨(by show 4 ≤ sizeLine; decide), fun p4 hp4 => ?_⟩⟩⟩⟩⟩⟩
    have u4 : Same H20 (upd H20 p4 (.lst [.ref a17, .ref a18, .ref a19, .ref a20])) := fun b o e => by rw [upd_ne (ne_of_none e hp4)]; exact e
    have y1_4 := z1_3.same (s17.trans (s18.trans (s19.trans (s20.trans u4))))
    have y2_4 := z2_3.same (s17.trans (s18.trans (s19.trans (s20.trans u4))))
    have y3_4 := z3_3.same (s17.trans (s18.trans (s19.trans (s20.trans u4))))
    have y4_4 := z4_3.same (s17.trans (s18.trans (s19.trans (s20.trans u4))))
    have y5_4 := z5_3.same (s17.trans (s18.trans (s19.trans (s20.trans u4))))
    have y6_4 := z6_3.same (s17.trans (s18.trans (s19.trans (s20.trans u4))))
    have y7_4 := z7_3.same (s17.trans (s18.trans (s19.trans (s20.trans u4))))
    have y8_4 := z8_3.same (s17.trans (s18.trans (s19.trans (s20.trans u4))))
    have y9_4 := z9_3.same (s17.trans (s18.trans (s19.trans (s20.trans u4))))
    have y10_4 := z10_3.same (s17.trans (s18.trans (s19.trans (s20.trans u4))))
    have y11_4 := z11_3.same (s17.trans (s18.trans (s19.trans (s20.trans u4))))
    have y12_4 := z12_3.same (s17.trans (s18.trans (s19.trans (s20.trans u4))))
    have y13_4 := z13_3.same (s17.trans (s18.trans (s19.trans (s20.trans u4))))
    have y14_4 := z14_3.same (s17.trans (s18.trans (s19.trans (s20.trans u4))))
    have y15_4 := z15_3.same (s17.trans (s18.trans (s19.trans (s20.trans u4))))
    have y16_4 := z16_3.same (s17.trans (s18.trans (s19.trans (s20.trans u4))))
    have y17_4 := x17.same (s18.trans (s19.trans (s20.trans u4)))
    have y18_4 := x18.same (s19.trans (s20.trans u4))
    have y19_4 := x19.same (s20.trans u4)
    have y20_4 := x20.same u4
    have C4 : Same H (upd H20 p4 (.lst [.ref a17, .ref a18, .ref a19, .ref a20])) := D3.trans (s17.trans (s18.trans (s19.trans (s20.trans u4))))
    have L4 := (s17.trans (s18.trans (s19.trans (s20.trans u4)))) _ _ M3
    refine ⟨_, p4, _, _, rfl, rfl, L4, upd_same, (by show 16 + 4 ≤ sizeLine; decide), fun r4 hr4 => ?_⟩
    have v4 : Same (upd H20 p4 (.lst [.ref a17, .ref a18, .ref a19, .ref a20])) (upd (upd H20 p4 (.lst [.ref a17, .ref a18, .ref a19, .ref a20])) r4 (.lst [.ref a1, .ref a2, .ref a3, .ref a4, .ref a5, .ref a6, .ref a7, .ref a8, .ref a9, .ref a10, .ref a11, .ref a12, .ref a13, .ref a14, .ref a15, .ref a16, .ref a17, .ref a18, .ref a19, .ref a20])) := fun b o e => by rw [upd_ne (ne_of_none e hr4)]; exact e
    have z1_4 := y1_4.same v4
    have z2_4 := y2_4.same v4
    have z3_4 := y3_4.same v4
    have z4_4 := y4_4.same v4
    have z5_4 := y5_4.same v4
    have z6_4 := y6_4.same v4
    have z7_4 := y7_4.same v4
    have z8_4 := y8_4.same v4
    have z9_4 := y9_4.same v4
    have z10_4 := y10_4.same v4
    have z11_4 := y11_4.same v4
    have z12_4 := y12_4.same v4
    have z13_4 := y13_4.same v4
    have z14_4 := y14_4.same v4
    have z15_4 := y15_4.same v4
    have z16_4 := y16_4.same v4
    have z17_4 := y17_4.same v4
    have z18_4 := y18_4.same v4
    have z19_4 := y19_4.same v4
    have z20_4 := y20_4.same v4
    have D4 : Same H (upd (upd H20 p4 (.lst [.ref a17, .ref a18, .ref a19, .ref a20])) r4 (.lst [.ref a1, .ref a2, .ref a3, .ref a4, .ref a5, .ref a6, .ref a7, .ref a8, .ref a9, .ref a10, .ref a11, .ref a12, .ref a13, .ref a14, .ref a15, .ref a16, .ref a17, .ref a18, .ref a19, .ref a20])) := C4.trans v4
    have M4 : (upd (upd H20 p4 (.lst [.ref a17, .ref a18, .ref a19, .ref a20])) r4 (.lst [.ref a1, .ref a2, .ref a3, .ref a4, .ref a5, .ref a6, .ref a7, .ref a8, .ref a9, .ref a10, .ref a11, .ref a12, .ref a13, .ref a14, .ref a15, .ref a16, .ref a17, .ref a18, .ref a19, .ref a20])) r4 = some (.lst [.ref a1, .ref a2, .ref a3, .ref a4, .ref a5, .ref a6, .ref a7, .ref a8, .ref a9, .ref a10, .ref a11, .ref a12, .ref a13, .ref a14, .ref a15, .ref a16, .ref a17, .ref a18, .ref a19, .ref a20]) := upd_same
    refine ⟨_, rfl, ⟨rfl, fun a21 H21 n21 s21 x21 => ⟨rfl, fun a22 H22 n22 s22 x22 => ⟨rfl, fun a23 H23 n23 s23 x23 => ⟨(by show 3 ≤ sizeLine; decide), fun p5 hp5 => ?_⟩⟩⟩⟩⟩
    have u5 : Same H23 (upd H23 p5 (.lst [.ref a21, .ref a22, .ref a23])) := fun b o e => by rw [upd_ne (ne_of_none e hp5)]; exact e
    have y1_5 := z1_4.same (s21.trans (s22.trans (s23.trans u5)))
    have y2_5 := z2_4.same (s21.trans (s22.trans (s23.trans u5)))
    have y3_5 := z3_4.same (s21.trans (s22.trans (s23.trans u5)))
    have y4_5 := z4_4.same (s21.trans (s22.trans (s23.trans u5)))
    have y5_5 := z5_4.same (s21.trans (s22.trans (s23.trans u5)))
    have y6_5 := z6_4.same (s21.trans (s22.trans (s23.trans u5)))
    have y7_5 := z7_4.same (s21.trans (s22.trans (s23.trans u5)))
    have y8_5 := z8_4.same (s21.trans (s22.trans (s23.trans u5)))
    have y9_5 := z9_4.same (s21.trans (s22.trans (s23.trans u5)))
    have y10_5 := z10_4.same (s21.trans (s22.trans (s23.trans u5)))
    have y11_5 := z11_4.same (s21.trans (s22.trans (s23.trans u5)))
    have y12_5 := z12_4.same (s21.trans (s22.trans (s23.trans u5)))
    have y13_5 := z13_4.same (s21.trans (s22.trans (s23.trans u5)))
    have y14_5 := z14_4.same (s21.trans (s22.trans (s23.trans u5)))
    have y15_5 := z15_4.same (s21.trans (s22.trans (s23.trans u5)))
    have y16_5 := z16_4.same (s21.trans (s22.trans (s23.trans u5)))
    have y17_5 := z17_4.same (s21.trans (s22.trans (s23.trans u5)))
    have y18_5 := z18_4.same (s21.trans (s22.trans (s23.trans u5)))
    have y19_5 := z19_4.same (s21.trans (s22.trans (s23.trans u5)))
    have y20_5 := z20_4.same (s21.trans (s22.trans (s23.trans u5)))
    have y21_5 := x21.same (s22.trans (s23.trans u5))
    have y22_5 := x22.same (s23.trans u5)
    have y23_5 := x23.same u5
    have C5 : Same H (upd H23 p5 (.lst [.ref a21, .ref a22, .ref a23])) := D4.trans (s21.trans (s22.trans (s23.trans u5)))
    have L5 := (s21.trans (s22.trans (s23.trans u5))) _ _ M4
    refine ⟨_, p5, _, _, rfl, rfl, L5, upd_same, (by show 20 + 3 ≤ sizeLine; decide), fun r5 hr5 => ?_⟩
    have v5 : Same (upd H23 p5 (.lst [.ref a21, .ref a22, .ref a23])) (upd (upd H23 p5 (.lst [.ref a21, .ref a22, .ref a23])) r5 (.lst [.ref a1, .ref a2, .ref a3, .ref a4, .ref a5, .ref a6, .ref a7, .ref a8, .ref a9, .ref a10, .ref a11, .ref a12, .ref a13, .ref a14, .ref a15, .ref a16, .ref a17, .ref a18, .ref a19, .ref a20, .ref a21, .ref a22, .ref a23])) := fun b o e => by rw [upd_ne (ne_of_none e hr5)]; exact e
    have z1_5 := y1_5.same v5
    have z2_5 := y2_5.same v5
    have z3_5 := y3_5.same v5
    have z4_5 := y4_5.same v5
    have z5_5 := y5_5.same v5
    have z6_5 := y6_5.same v5
    have z7_5 := y7_5.same v5
    have z8_5 := y8_5.same v5
    have z9_5 := y9_5.same v5
    have z10_5 := y10_5.same v5
    have z11_5 := y11_5.same v5
    have z12_5 := y12_5.same v5
    have z13_5 := y13_5.same v5
    have z14_5 := y14_5.same v5
    have z15_5 := y15_5.same v5
    have z16_5 := y16_5.same v5
    have z17_5 := y17_5.same v5
    have z18_5 := y18_5.same v5
    have z19_5 := y19_5.same v5
    have z20_5 := y20_5.same v5
    have z21_5 := y21_5.same v5
    have z22_5 := y22_5.same v5
    have z23_5 := y23_5.same v5
    have D5 : Same H (upd (upd H23 p5 (.lst [.ref a21, .ref a22, .ref a23])) r5 (.lst [.ref a1, .ref a2, .ref a3, .ref a4, .ref a5, .ref a6, .ref a7, .ref a8, .ref a9, .ref a10, .ref a11, .ref a12, .ref a13, .ref a14, .ref a15, .ref a16, .ref a17, .ref a18, .ref a19, .ref a20, .ref a21, .ref a22, .ref a23])) := C5.trans v5
    have M5 : (upd (upd H23 p5 (.lst [.ref a21, .ref a22, .ref a23])) r5 (.lst [.ref a1, .ref a2, .ref a3, .ref a4, .ref a5, .ref a6, .ref a7, .ref a8, .ref a9, .ref a10, .ref a11, .ref a12, .ref a13, .ref a14, .ref a15, .ref a16, .ref a17, .ref a18, .ref a19, .ref a20, .ref a21, .ref a22, .ref a23])) r5 = some (.lst [.ref a1, .ref a2, .ref a3, .ref a4, .ref a5, .ref a6, .ref a7, .ref a8, .ref a9, .ref a10, .ref a11, .ref a12, .ref a13, .ref a14, .ref a15, .ref a16, .ref a17, .ref a18, .ref a19, .ref a20, .ref a21, .ref a22, .ref a23]) := upd_same
    exact ⟨_, rfl, q _ [a1, a2, a3, a4, a5, a6, a7, a8, a9, a10, a11, a12, a13, a14, a15, a16, a17, a18, a19, a20, a21, a22, a23] _ D5 M5 (.cons z1_5 (.cons z2_5 (.cons z3_5 (.cons z4_5 (.cons z5_5 (.cons z6_5 (.cons z7_5 (.cons z8_5 (.cons z9_5 (.cons z10_5 (.cons z11_5 (.cons z12_5 (.cons z13_5 (.cons z14_5 (.cons z15_5 (.cons z16_5 (.cons z17_5 (.cons z18_5 (.cons z19_5 (.cons z20_5 (.cons z21_5 (.cons z22_5 (.cons z23_5 .nil)))))))))))))))))))))))⟩
theorem sc_named : FnScope ["_law_thing", "_law_found"] ["_law_thing"] (defScope sNamed) := ⟨rfl, rfl, rfl, by decide +kernel, rfl, by decide +kernel, by decide +kernel⟩
theorem ok_named (F : FnP K "_law_named" sNamed f fd) (T : TX P w K mg base) : FnOk P w K mg base CX0 3 f fd ["_law_thing"] (spMade K) := by
  have nd := sc_named.nd
  refine F.ok sc_named (fun vs H Q E h => ?_) (fun cdv A outer s H vs Q E hr h => ?_)
  · obtain ⟨t, rfl, _⟩ := h
    rfl
  · obtain ⟨t, rfl, q⟩ := h
    refine ⟨_, PSs.nox (pss_cons (ps_set (i := 1) nd rfl (.inl rfl) (pe_lst (pa_cons (pe_Xk (T.m0) hr rfl (pk_cons (pv 0) pk_nil)) (pa_cons (pe_Xk (T.m1) hr rfl (pk_cons (pv 0) pk_nil)) (pa_cons (pe_Xk (T.m2) hr rfl (pk_cons (pv 0) pk_nil)) pa_nil)))))
      (pss_cons (ps_set (i := 1) nd rfl (.inl rfl) (pe_op op_cat (pv 1) (pe_lst (pa_cons (pe_Xk (T.m3) hr rfl (pk_cons (pv 0) pk_nil)) (pa_cons (pe_Xk (T.m4) hr rfl (pk_cons (pv 0) pk_nil)) (pa_cons (pe_Xk (T.m5) hr rfl (pk_cons (pv 0) pk_nil)) pa_nil))))))
      (pss_cons (ps_set (i := 1) nd rfl (.inl rfl) (pe_op op_cat (pv 1) (pe_lst (pa_cons (pe_Xk (T.m6) hr rfl (pk_cons (pv 0) pk_nil)) (pa_cons (pe_Xk (T.m7) hr rfl (pk_cons (pv 0) pk_nil)) (pa_cons (pe_Xk (T.m8) hr rfl (pk_cons (pv 0) pk_nil)) pa_nil))))))
      (pss_cons (ps_set (i := 1) nd rfl (.inl rfl) (pe_op op_cat (pv 1) (pe_lst (pa_cons (pe_Xk (T.m9) hr rfl (pk_cons (pv 0) pk_nil)) (pa_cons (pe_Xk (T.m10) hr rfl (pk_cons (pv 0) pk_nil)) (pa_cons (pe_Xk (T.m11) hr rfl (pk_cons (pv 0) pk_nil)) pa_nil))))))
      (pss_cons (ps_set (i := 1) nd rfl (.inl rfl) (pe_op op_cat (pv 1) (pe_lst (pa_cons (pe_Xk (T.m12) hr rfl (pk_cons (pv 0) pk_nil)) (pa_cons (pe_Xk (T.m13) hr rfl (pk_cons (pv 0) pk_nil)) (pa_cons (pe_Xk (T.m14) hr rfl (pk_cons (pv 0) pk_nil)) pa_nil))))))
      (pss_cons (ps_set (i := 1) nd rfl (.inl rfl) (pe_op op_cat (pv 1) (pe_lst (pa_cons (pe_Xk (T.m15) hr rfl (pk_cons (pv 0) pk_nil)) (pa_cons (pe_Xk (T.m16) hr rfl (pk_cons (pv 0) pk_nil)) (pa_cons (pe_Xk (T.m17) hr rfl (pk_cons (pv 0) pk_nil)) pa_nil))))))
      (pss_cons (ps_set (i := 1) nd rfl (.inl rfl) (pe_op op_cat (pv 1) (pe_lst (pa_cons (pe_Xk (T.m18) hr rfl (pk_cons (pv 0) (pk_cons (pv 0) pk_nil))) (pa_cons (pe_Xk (T.m19) hr rfl (pk_cons (pv 0) pk_nil)) (pa_cons (pe_X0 (T.m20) hr rfl) pa_nil))))))
      (pss_cons (ps_set (i := 1) nd rfl (.inl rfl) (pe_op op_cat (pv 1) (pe_lst (pa_cons (pe_X0 (T.m21) hr rfl) (pa_cons (pe_X0 (T.m22) hr rfl) pa_nil)))))
      (pss_one (ps_ret (pv 1))))))))))), ?_⟩
    have S0 : Same H H := Same.refl H
    refine ⟨_, rfl, rfl, fun a1 H1 n1 s1 x1 => ⟨_, rfl, rfl, fun a2 H2 n2 s2 x2 => ⟨_, rfl, rfl, fun a3 H3 n3 s3 x3 => ⟨(by show 3 ≤ sizeLine; decide), fun p0 hp0 => ?_⟩⟩⟩⟩
    have u0 : Same H3 (upd H3 p0 (.lst [.ref a1, .ref a2, .ref a3])) := fun b o e => by rw [upd_ne (ne_of_none e hp0)]; exact e
    have y1_0 := x1.same (s2.trans (s3.trans u0))
    have y2_0 := x2.same (s3.trans u0)
    have y3_0 := x3.same u0
    have C0 : Same H (upd H3 p0 (.lst [.ref a1, .ref a2, .ref a3])) := S0.trans (s1.trans (s2.trans (s3.trans u0)))
    have M0 : (upd H3 p0 (.lst [.ref a1, .ref a2, .ref a3])) p0 = some (.lst [.ref a1, .ref a2, .ref a3]) := upd_same
    refine ⟨_, rfl, ⟨_, rfl, rfl, fun a4 H4 n4 s4 x4 => ⟨_, rfl, rfl, fun a5 H5 n5 s5 x5 => ⟨_, rfl, rfl, fun a6 H6 n6 s6 x6 => ⟨(by show 3 ≤ sizeLine; decide), fun p1 hp1 => ?_⟩⟩⟩⟩⟩
    have u1 : Same H6 (upd H6 p1 (.lst [.ref a4, .ref a5, .ref a6])) := fun b o e => by rw [upd_ne (ne_of_none e hp1)]; exact e
    have y1_1 := y1_0.same (s4.trans (s5.trans (s6.trans u1)))
    have y2_1 := y2_0.same (s4.trans (s5.trans (s6.trans u1)))
    have y3_1 := y3_0.same (s4.trans (s5.trans (s6.trans u1)))
    have y4_1 := x4.same (s5.trans (s6.trans u1))
    have y5_1 := x5.same (s6.trans u1)
    have y6_1 := x6.same u1
    have C1 : Same H (upd H6 p1 (.lst [.ref a4, .ref a5, .ref a6])) := C0.trans (s4.trans (s5.trans (s6.trans u1)))
    have L1 := (s4.trans (s5.trans (s6.trans u1))) _ _ M0
    refine ⟨_, p1, _, _, rfl, rfl, L1, upd_same, (by show 3 + 3 ≤ sizeLine; decide), fun r1 hr1 => ?_⟩
    have v1 : Same (upd H6 p1 (.lst [.ref a4, .ref a5, .ref a6])) (upd (upd H6 p1 (.lst [.ref a4, .ref a5, .ref a6])) r1 (.lst [.ref a1, .ref a2, .ref a3, .ref a4, .ref a5, .ref a6])) := fun b o e => by rw [upd_ne (ne_of_none e hr1)]; exact e
    have z1_1 := y1_1.same v1
    have z2_1 := y2_1.same v1
    have z3_1 := y3_1.same v1
    have z4_1 := y4_1.same v1
    have z5_1 := y5_1.same v1
    have z6_1 := y6_1.same v1
    have D1 : Same H (upd (upd H6 p1 (.lst [.ref a4, .ref a5, .ref a6])) r1 (.lst [.ref a1, .ref a2, .ref a3, .ref a4, .ref a5, .ref a6])) := C1.trans v1
    have M1 : (upd (upd H6 p1 (.lst [.ref a4, .ref a5, .ref a6])) r1 (.lst [.ref a1, .ref a2, .ref a3, .ref a4, .ref a5, .ref a6])) r1 = some (.lst [.ref a1, .ref a2, .ref a3, .ref a4, .ref a5, .ref a6]) := upd_same
    refine ⟨_, rfl, ⟨_, rfl, rfl, fun a7 H7 n7 s7 x7 => ⟨_, rfl, rfl, fun a8 H8 n8 s8 x8 => ⟨_, rfl, rfl, fun a9 H9 n9 s9 x9 => ⟨(by show 3 ≤ sizeLine; decide), fun p2 hp2 => ?_⟩⟩⟩⟩⟩
    have u2 : Same H9 (upd H9 p2 (.lst [.ref a7, .ref a8, .ref a9])) := fun b o e => by rw [upd_ne (ne_of_none e hp2)]; exact e
    have y1_2 := z1_1.same (s7.trans (s8.trans (s9.trans u2)))
    have y2_2 := z2_1.same (s7.trans (s8.trans (s9.trans u2)))
    have y3_2 := z3_1.same (s7.trans (s8.trans (s9.trans u2)))
    have y4_2 := z4_1.same (s7.trans (s8.trans (s9.trans u2)))
    have y5_2 := z5_1.same (s7.trans (s8.trans (s9.trans u2)))
    have y6_2 := z6_1.same (s7.trans (s8.trans (s9.trans u2)))
    have y7_2 := x7.same (s8.trans (s9.trans u2))
    have y8_2 := x8.same (s9.trans u2)
    have y9_2 := x9.same u2
    have C2 : Same H (upd H9 p2 (.lst [.ref a7, .ref a8, .ref a9])) := D1.trans (s7.trans (s8.trans (s9.trans u2)))
    have L2 := (s7.trans (s8.trans (s9.trans u2))) _ _ M1
    refine ⟨_, p2, _, _, rfl, rfl, L2, upd_same, (by show 6 + 3 ≤ sizeLine; decide), fun r2 hr2 => ?_⟩
    have v2 : Same (upd H9 p2 (.lst [.ref a7, .ref a8, .ref a9])) (upd (upd H9 p2 (.lst [.ref a7, .ref a8, .ref a9])) r2 (.lst [.ref a1, .ref a2, .ref a3, .ref a4, .ref a5, .ref a6, .ref a7, .ref a8, .ref a9])) := fun b o e => by rw [upd_ne (ne_of_none e hr2)]; exact e
    have z1_2 := y1_2.same v2
    have z2_2 := y2_2.same v2
    have z3_2 := y3_2.same v2
    have z4_2 := y4_2.same v2
    have z5_2 := y5_2.same v2
    have z6_2 := y6_2.same v2
    have z7_2 := y7_2.same v2
    have z8_2 := y8_2.same v2
    have z9_2 := y9_2.same v2
    have D2 : Same H (upd (upd H9 p2 (.lst [.ref a7, .ref a8, .ref a9])) r2 (.lst [.ref a1, .ref a2, .ref a3, .ref a4, .ref a5, .ref a6, .ref a7, .ref a8, .ref a9])) := C2.trans v2
    have M2 : (upd (upd H9 p2 (.lst [.ref a7, .ref a8, .ref a9])) r2 (.lst [.ref a1, .ref a2, .ref a3, .ref a4, .ref a5, .ref a6, .ref a7, .ref a8, .ref a9])) r2 = some (.lst [.ref a1, .ref a2, .ref a3, .ref a4, .ref a5, .ref a6, .ref a7, .ref a8, .ref a9]) := upd_same
    refine ⟨_, rfl, ⟨_, rfl, rfl, fun a10 H10 n10 s10 x10 => ⟨_, rfl, rfl, fun a11 H11 n11 s11 x11 => ⟨_, rfl, rfl, fun a12 H12 n12 s12 x12 => ⟨(by show 3 ≤ sizeLine; decide), fun p3 hp3 => ?_⟩⟩⟩⟩⟩
    have u3 : Same H12 (upd H12 p3 (.lst [.ref a10, .ref a11, .ref a12])) := fun b o e => by rw [upd_ne (ne_of_none e hp3)]; exact e
    have y1_3 := z1_2.same (s10.trans (s11.trans (s12.trans u3)))
    have y2_3 := z2_2.same (s10.trans (s11.trans (s12.trans u3)))
    have y3_3 := z3_2.same (s10.trans (s11.trans (s12.trans u3)))
    have y4_3 := z4_2.same (s10.trans (s11.trans (s12.trans u3)))
    have y5_3 := z5_2.same (s10.trans (s11.trans (s12.trans u3)))
    have y6_3 := z6_2.same (s10.trans (s11.trans (s12.trans u3)))
    have y7_3 := z7_2.same (s10.trans (s11.trans (s12.trans u3)))
    have y8_3 := z8_2.same (s10.trans (s11.trans (s12.trans u3)))
    have y9_3 := z9_2.same (s10.trans (s11.trans (s12.trans u3)))
    have y10_3 := x10.same (s11.trans (s12.trans u3))
    have y11_3 := x11.same (s12.trans u3)
    have y12_3 := x12.same u3
    have C3 : Same H (upd H12 p3 (.lst [.ref a10, .ref a11, .ref a12])) := D2.trans (s10.trans (s11.trans (s12.trans u3)))
    have L3 := (s10.trans (s11.trans (s12.trans u3))) _ _ M2
    refine ⟨_, p3, _, _, rfl, rfl, L3, upd_same, (by show 9 + 3 ≤ sizeLine; decide), fun r3 hr3 => ?_⟩
    have v3 : Same (upd H12 p3 (.lst [.ref a10, .ref a11, .ref a12])) (upd (upd H12 p3 (.lst [.ref a10, .ref a11, .ref a12])) r3 (.lst [.ref a1, .ref a2, .ref a3, .ref a4, .ref a5, .ref a6, .ref a7, .ref a8, .ref a9, .ref a10, .ref a11, .ref a12])) := fun b o e => by rw [upd_ne (ne_of_none e hr3)]; exact e
    have z1_3 := y1_3.same v3
    have z2_3 := y2_3.same v3
    have z3_3 := y3_3.same v3
    have z4_3 := y4_3.same v3
    have z5_3 := y5_3.same v3
    have z6_3 := y6_3.same v3
    have z7_3 := y7_3.same v3
    have z8_3 := y8_3.same v3
    have z9_3 := y9_3.same v3
    have z10_3 := y10_3.same v3
    have z11_3 := y11_3.same v3
    have z12_3 := y12_3.same v3
    have D3 : Same H (upd (upd H12 p3 (.lst [.ref a10, .ref a11, .ref a12])) r3 (.lst [.ref a1, .ref a2, .ref a3, .ref a4, .ref a5, .ref a6, .ref a7, .ref a8, .ref a9, .ref a10, .ref a11, .ref a12])) := C3.trans v3
    have M3 : (upd (upd H12 p3 (.lst [.ref a10, .ref a11, .ref a12])) r3 (.lst [.ref a1, .ref a2, .ref a3, .ref a4, .ref a5, .ref a6, .ref a7, .ref a8, .ref a9, .ref a10, .ref a11, .ref a12])) r3 = some (.lst [.ref a1, .ref a2, .ref a3, .ref a4, .ref a5, .ref a6, .ref a7, .ref a8, .ref a9, .ref a10, .ref a11, .ref a12]) := upd_same
    refine ⟨_, rfl, ⟨_, rfl, rfl, fun a13 H13 n13 s13 x13 => ⟨_, rfl, rfl, fun a14 H14 n14 s14 x14 => ⟨_, rfl, rfl, fun a15 H15 n15 s15 x15 => ⟨(by show 3 ≤ sizeLine; decide), fun p4 hp4 => ?_⟩⟩⟩⟩⟩
    have u4 : Same H15 (upd H15 p4 (.lst [.ref a13, .ref a14, .ref a15])) := fun b o e => by rw [upd_ne (ne_of_none e hp4)]; exact e
    have y1_4 := z1_3.same (s13.trans (s14.trans (s15.trans u4)))
    have y2_4 := z2_3.same (s13.trans (s14.trans (s15.trans u4)))
    have y3_4 := z3_3.same (s13.trans (s14.trans (s15.trans u4)))
    have y4_4 := z4_3.same (s13.trans (s14.trans (s15.trans u4)))
    have y5_4 := z5_3.same (s13.trans (s14.trans (s15.trans u4)))
    have y6_4 := z6_3.same (s13.trans (s14.trans (s15.trans u4)))
    have y7_4 := z7_3.same (s13.trans (s14.trans (s15.trans u4)))
    have y8_4 := z8_3.same (s13.trans (s14.trans (s15.trans u4)))
    have y9_4 := z9_3.same (s13.trans (s14.trans (s15.trans u4)))
    have y10_4 := z10_3.same (s13.trans (s14.trans (s15.trans u4)))
    have y11_4 := z11_3.same (s13.trans (s14.trans (s15.trans u4)))
    have y12_4 := z12_3.same (s13.trans (s14.trans (s15.trans u4)))
    have y13_4 := x13.same (s14.trans (s15.trans u4))
    have y14_4 := x14.same (s15.trans u4)
    have y15_4 := x15.same u4
    have C4 : Same H (upd H15 p4 (.lst [.ref a13, .ref a14, .ref a15])) := D3.trans (s13.trans (s14.trans (s15.trans u4)))
    have L4 := (s13.trans (s14.trans (s15.trans u4))) _ _ M3
    refine ⟨_, p4, _, _, rfl, rfl, L4, upd_same, (by show 12 + 3 ≤ sizeLine; decide), fun r4 hr4 => ?_⟩
    have v4 : Same (upd H15 p4 (.lst [.ref a13, .ref a14, .ref a15])) (upd (upd H15 p4 (.lst [.ref a13, .ref a14, .ref a15])) r4 (.lst [.ref a1, .ref a2, .ref a3, .ref a4, .ref a5, .ref a6, .ref a7, .ref a8, .ref a9, .ref a10, .ref a11, .ref a12, .ref a13, .ref a14, .ref a15])) := fun b o e => by rw [upd_ne (ne_of_none e hr4)]; exact e
    have z1_4 := y1_4.same v4
    have z2_4 := y2_4.same v4
    have z3_4 := y3_4.same v4
    have z4_4 := y4_4.same v4
    have z5_4 := y5_4.same v4
    have z6_4 := y6_4.same v4
    have z7_4 := y7_4.same v4
    have z8_4 := y8_4.same v4
    have z9_4 := y9_4.same v4
    have z10_4 := y10_4.same v4
    have z11_4 := y11_4.same v4
    have z12_4 := y12_4.same v4
    have z13_4 := y13_4.same v4
    have z14_4 := y14_4.same v4
    have z15_4 := y15_4.same v4
    have D4 : Same H (upd (upd H15 p4 (.lst [.ref a13, .ref a14, .ref a15])) r4 (.lst [.ref a1, .ref a2, .ref a3, .ref a4, .ref a5, .ref a6, .ref a7, .ref a8, .ref a9, .ref a10, .ref a11, .ref a12, .ref a13, .ref a14, .ref a15])) := C4.trans v4
    have M4 : (upd (upd H15 p4 (.lst [.ref a13, .ref a14, .ref a15])) r4 (.lst [.ref a1, .ref a2, .ref a3, .ref a4, .ref a5, .ref a6, .ref a7, .ref a8, .ref a9, .ref a10, .ref a11, .ref a12, .ref a13, .ref a14, .ref a15])) r4 = some (.lst [.ref a1, .ref a2, .ref a3, .ref a4, .ref a5, .ref a6, .ref a7, .ref a8, .ref a9, .ref a10, .ref a11, .ref a12, .ref a13, .ref a14, .ref a15]) := upd_same
    refine ⟨_, rfl, ⟨_, rfl, rfl, fun a16 H16 n16 s16 x16 => ⟨_, rfl, rfl, fun a17 H17 n17 s17 x17 => ⟨_, rfl, rfl, fun a18 H18 n18 s18 x18 => ⟨(by show 3 ≤ sizeLine; decide), fun p5 hp5 => ?_⟩⟩⟩⟩⟩
    have u5 : Same H18 (upd H18 p5 (.lst [.ref a16, .ref a17, .ref a18])) := fun b o e => by rw [upd_ne (ne_of_none e hp5)]; exact e
    have y1_5 := z1_4.same (s16.trans (s17.trans (s18.trans u5)))
    have y2_5 := z2_4.same (s16.trans (s17.trans (s18.trans u5)))
    have y3_5 := z3_4.same (s16.trans (s17.trans (s18.trans u5)))
    have y4_5 := z4_4.same (s16.trans (s17.trans (s18.trans u5)))
    have y5_5 := z5_4.same (s16.trans (s17.trans (s18.trans u5)))
    have y6_5 := z6_4.same (s16.trans (s17.trans (s18.trans u5)))
    have y7_5 := z7_4.same (s16.trans (s17.trans (s18.trans u5)))
    have y8_5 := z8_4.same (s16.trans (s17.trans (s18.trans u5)))
    have y9_5 := z9_4.same (s16.trans (s17.trans (s18.trans u5)))
    have y10_5 := z10_4.same (s16.trans (s17.trans (s18.trans u5)))
    have y11_5 := z11_4.same (s16.trans (s17.trans (s18.trans u5)))
    have y12_5 := z12_4.same (s16.trans (s17.trans (s18.trans u5)))
    have y13_5 := z13_4.same (s16.trans (s17.trans (s18.trans u5)))
    have y14_5 := z14_4.same (s16.trans (s17.trans (s18.trans u5)))
    have y15_5 := z15_4.same (s16.trans (s17.trans (s18.trans u5)))
    have y16_5 := x16.same (s17.trans (s18.trans u5))
    have y17_5 := x17.same (s18.trans u5)
    have y18_5 := x18.same u5
    have C5 : Same H (upd H18 p5 (.lst [.ref a16, .ref a17, .ref a18])) := D4.trans (s16.trans (s17.trans (s18.trans u5)))
    have L5 := (s16.trans (s17.trans (s18.trans u5))) _ _ M4
    refine ⟨_, p5, _, _, rfl, rfl, L5, upd_same, (by show 15 + 3 ≤ sizeLine; decide), fun r5 hr5 => ?_⟩
    have v5 : Same (upd H18 p5 (.lst [.ref a16, .ref a17, .ref a18])) (upd (upd H18 p5 (.lst [.ref a16, .ref a17, .ref a18])) r5 (.lst [.ref a1, .ref a2, .ref a3, .ref a4, .ref a5, .ref a6, .ref a7, .ref a8, .ref a9, .ref a10, .ref a11, .ref a12, .ref a13, .ref a14, .ref a15, .ref a16, .ref a17, .ref a18])) := fun b o e => by rw [upd_ne (ne_of_none e hr5)]; exact e
    have z1_5 := y1_5.same v5
    have z2_5 := y2_5.same v5
    have z3_5 := y3_5.same v5
    have z4_5 := y4_5.same v5
    have z5_5 := y5_5.same v5
    have z6_5 := y6_5.same v5
    have z7_5 := y7_5.same v5
    have z8_5 := y8_5.same v5
    have z9_5 := y9_5.same v5
    have z10_5 := y10_5.same v5
    have z11_5 := y11_5.same v5
    have z12_5 := y12_5.same v5
    have z13_5 := y13_5.same v5
    have z14_5 := y14_5.same v5
    have z15_5 := y15_5.same v5
    have z16_5 := y16_5.same v5
    have z17_5 := y17_5.same v5
    have z18_5 := y18_5.same v5
    have D5 : Same H (upd (upd H18 p5 (.lst [.ref a16, .ref a17, .ref a18])) r5 (.lst [.ref a1, .ref a2, .ref a3, .ref a4, .ref a5, .ref a6, .ref a7, .ref a8, .ref a9, .ref a10, .ref a11, .ref a12, .ref a13, .ref a14, .ref a15, .ref a16, .ref a17, .ref a18])) := C5.trans v5
    have M5 : (upd (upd H18 p5 (.lst [.ref a16, .ref a17, .ref a18])) r5 (.lst [.ref a1, .ref a2, .ref a3, .ref a4, .ref a5, .ref a6, .ref a7, .ref a8, .ref a9, .ref a10, .ref a11, .ref a12, .ref a13, .ref a14, .ref a15, .ref a16, .ref a17, .ref a18])) r5 = some (.lst [.ref a1, .ref a2, .ref a3, .ref a4, .ref a5, .ref a6, .ref a7, .ref a8, .ref a9, .ref a10, .ref a11, .ref a12, .ref a13, .ref a14, .ref a15, .ref a16, .ref a17, .ref a18]) := upd_same
    refine ⟨_, rfl, ⟨_, rfl, _, rfl, rfl, fun a19 H19 n19 s19 x19 => ⟨_, rfl, rfl, fun a20 H20 n20 s20 x20 => ⟨rfl, fun a21 H21 n21 s21 x21 => ⟨(by show 3 ≤ sizeLine; decide), fun p6 hp6 => ?_⟩⟩⟩⟩⟩
    have u6 : Same H21 (upd H21 p6 (.lst [.ref a19, .ref a20, .ref a21])) := fun b o e => by rw [upd_ne (ne_of_none e hp6)]; exact e
    have y1_6 := z1_5.same (s19.trans (s20.trans (s21.trans u6)))
    have y2_6 := z2_5.same (s19.trans (s20.trans (s21.trans u6)))
    have y3_6 := z3_5.same (s19.trans (s20.trans (s21.trans u6)))
    have y4_6 := z4_5.same (s19.trans (s20.trans (s21.trans u6)))
    have y5_6 := z5_5.same (s19.trans (s20.trans (s21.trans u6)))
    have y6_6 := z6_5.same (s19.trans (s20.trans (s21.trans u6)))
    have y7_6 := z7_5.same (s19.trans (s20.trans (s21.trans u6)))
    have y8_6 := z8_5.same (s19.trans (s20.trans (s21.trans u6)))
    have y9_6 := z9_5.same (s19.trans (s20.trans (s21.trans u6)))
    have y10_6 := z10_5.same (s19.trans (s20.trans (s21.trans u6)))
    have y11_6 := z11_5.same (s19.trans (s20.trans (s21.trans u6)))
    have y12_6 := z12_5.same (s19.trans (s20.trans (s21.trans u6)))
    have y13_6 := z13_5.same (s19.trans (s20.trans (s21.trans u6)))
    have y14_6 := z14_5.same (s19.trans (s20.trans (s21.trans u6)))
    have y15_6 := z15_5.same (s19.trans (s20.trans (s21.trans u6)))
    have y16_6 := z16_5.same (s19.trans (s20.trans (s21.trans u6)))
    have y17_6 := z17_5.same (s19.trans (s20.trans (s21.trans u6)))
    have y18_6 := z18_5.same (s19.trans (s20.trans (s21.trans u6)))
    have y19_6 := x19.same (s20.trans (s21.trans u6))
    have y20_6 := x20.same (s21.trans u6)
    have y21_6 := x21.same u6
    have C6 : Same H (upd H21 p6 (.lst [.ref a19, .ref a20, .ref a21])) := D5.trans (s19.trans (s20.trans (s21.trans u6)))
    have L6 := (s19.trans (s20.trans (s21.trans u6))) _ _ M5
    refine ⟨_, p6, _, _, rfl, rfl, L6, upd_same, (by show 18 + 3 ≤ sizeLine; decide), fun r6 hr6 => ?_⟩
    have v6 : Same (upd H21 p6 (.lst [.ref a19, .ref a20, .ref a21])) (upd (upd H21 p6 (.lst [.ref a19, .ref a20, .ref a21])) r6 (.lst [.ref a1, .ref a2, .ref a3, .ref a4, .ref a5, .ref a6, .ref a7, .ref a8, .ref a9, .ref a10, .ref a11, .ref a12, .ref a13, .ref a14, .ref a15, .ref a16, .ref a17, .ref a18, .ref a19, .ref a20, .ref a21])) := fun b o e => by rw [upd_ne (ne_of_none e hr6)]; exact e
    have z1_6 := y1_6.same v6
    have z2_6 := y2_6.same v6
    have z3_6 := y3_6.same v6
    have z4_6 := y4_6.same v6
    have z5_6 := y5_6.same v6
    have z6_6 := y6_6.same v6
    have z7_6 := y7_6.same v6
    have z8_6 := y8_6.same v6
    have z9_6 := y9_6.same v6
    have z10_6 := y10_6.same v6
    have z11_6 := y11_6.same v6
    have z12_6 := y12_6.same v6
    have z13_6 := y13_6.same v6
    have z14_6 := y14_6.same v6
    have z15_6 := y15_6.same v6
    have z16_6 := y16_6.same v6
    have z17_6 := y17_6.same v6
    have z18_6 := y18_6.same v6
    have z19_6 := y19_6.same v6
    have z20_6 := y20_6.same v6
    have z21_6 := y21_6.same v6
    have D6 : Same H (upd (upd H21 p6 (.lst [.ref a19, .ref a20, .ref a21])) r6 (.lst [.ref a1, .ref a2, .ref a3, .ref a4, .ref a5, .ref a6, .ref a7, .ref a8, .ref a9, .ref a10, .ref a11, .ref a12, .ref a13, .ref a14, .ref a15, .ref a16, .ref a17, .ref a18, .ref a19, .ref a20, .ref a21])) := C6.trans v6
    have M6 : (upd (upd H21 p6 (.lst [.ref a19, .ref a20, .ref a21])) r6 (.lst [.ref a1, .ref a2, .ref a3, .ref a4, .ref a5, .ref a6, .ref a7, .ref a8, .ref a9, .ref a10, .ref a11, .ref a12, .ref a13, .ref a14, .ref a15, .ref a16, .ref a17, .ref a18, .ref a19, .ref a20, .ref a21])) r6 = some (.lst [.ref a1, .ref a2, .ref a3, .ref a4, .ref a5, .ref a6, .ref a7, .ref a8, .ref a9, .ref a10, .ref a11, .ref a12, .ref a13, .ref a14, .ref a15, .ref a16, .ref a17, .ref a18, .ref a19, .ref a20, .ref a21]) := upd_same
    refine ⟨_, rfl, ⟨rfl, fun a22 H22 n22 s22 x22 => ⟨rfl, fun a23 H23 n23 s23 x23 => ⟨(by show 2 ≤ sizeLine; decide), fun p7 hp7 => ?_⟩⟩⟩⟩
    have u7 : Same H23 (upd H23 p7 (.lst [.ref a22, .ref a23])) := fun b o e => by rw [upd_ne (ne_of_none e hp7)]; exact e
    have y1_7 := z1_6.same (s22.trans (s23.trans u7))
    have y2_7 := z2_6.same (s22.trans (s23.trans u7))
    have y3_7 := z3_6.same (s22.trans (s23.trans u7))
    have y4_7 := z4_6.same (s22.trans (s23.trans u7))
    have y5_7 := z5_6.same (s22.trans (s23.trans u7))
    have y6_7 := z6_6.same (s22.trans (s23.trans u7))
    have y7_7 := z7_6.same (s22.trans (s23.trans u7))
    have y8_7 := z8_6.same (s22.trans (s23.trans u7))
    have y9_7 := z9_6.same (s22.trans (s23.trans u7))
    have y10_7 := z10_6.same (s22.trans (s23.trans u7))
    have y11_7 := z11_6.same (s22.trans (s23.trans u7))
    have y12_7 := z12_6.same (s22.trans (s23.trans u7))
    have y13_7 := z13_6.same (s22.trans (s23.trans u7))
    have y14_7 := z14_6.same (s22.trans (s23.trans u7))
    have y15_7 := z15_6.same (s22.trans (s23.trans u7))
    have y16_7 := z16_6.same (s22.trans (s23.trans u7))
    have y17_7 := z17_6.same (s22.trans (s23.trans u7))
    have y18_7 := z18_6.same (s22.trans (s23.trans u7))
    have y19_7 := z19_6.same (s22.trans (s23.trans u7))
    have y20_7 := z20_6.same (s22.trans (s23.trans u7))
    have y21_7 := z21_6.same (s22.trans (s23.trans u7))
    have y22_7 := x22.same (s23.trans u7)
    have y23_7 := x23.same u7
    have C7 : Same H (upd H23 p7 (.lst [.ref a22, .ref a23])) := D6.trans (s22.trans (s23.trans u7))
    have L7 := (s22.trans (s23.trans u7)) _ _ M6
    refine ⟨_, p7, _, _, rfl, rfl, L7, upd_same, (by show 21 + 2 ≤ sizeLine; decide), fun r7 hr7 => ?_⟩
    have v7 : Same (upd H23 p7 (.lst [.ref a22, .ref a23])) (upd (upd H23 p7 (.lst [.ref a22, .ref a23])) r7 (.lst [.ref a1, .ref a2, .ref a3, .ref a4, .ref a5, .ref a6, .ref a7, .ref a8, .ref a9, .ref a10, .ref a11, .ref a12, .ref a13, .ref a14, .ref a15, .ref a16, .ref a17, .ref a18, .ref a19, .ref a20, .ref a21, .ref a22, .ref a23])) := fun b o e => by rw [upd_ne (ne_of_none e hr7)]; exact e
    have z1_7 := y1_7.same v7
    have z2_7 := y2_7.same v7
    have z3_7 := y3_7.same v7
    have z4_7 := y4_7.same v7
    have z5_7 := y5_7.same v7
    have z6_7 := y6_7.same v7
    have z7_7 := y7_7.same v7
    have z8_7 := y8_7.same v7
    have z9_7 := y9_7.same v7
    have z10_7 := y10_7.same v7
    have z11_7 := y11_7.same v7
    have z12_7 := y12_7.same v7
    have z13_7 := y13_7.same v7
    have z14_7 := y14_7.same v7
    have z15_7 := y15_7.same v7
    have z16_7 := y16_7.same v7
    have z17_7 := y17_7.same v7
    have z18_7 := y18_7.same v7
    have z19_7 := y19_7.same v7
    have z20_7 := y20_7.same v7
    have z21_7 := y21_7.same v7
    have z22_7 := y22_7.same v7
    have z23_7 := y23_7.same v7
    have D7 : Same H (upd (upd H23 p7 (.lst [.ref a22, .ref a23])) r7 (.lst [.ref a1, .ref a2, .ref a3, .ref a4, .ref a5, .ref a6, .ref a7, .ref a8, .ref a9, .ref a10, .ref a11, .ref a12, .ref a13, .ref a14, .ref a15, .ref a16, .ref a17, .ref a18, .ref a19, .ref a20, .ref a21, .ref a22, .ref a23])) := C7.trans v7
    have M7 : (upd (upd H23 p7 (.lst [.ref a22, .ref a23])) r7 (.lst [.ref a1, .ref a2, .ref a3, .ref a4, .ref a5, .ref a6, .ref a7, .ref a8, .ref a9, .ref a10, .ref a11, .ref a12, .ref a13, .ref a14, .ref a15, .ref a16, .ref a17, .ref a18, .ref a19, .ref a20, .ref a21, .ref a22, .ref a23])) r7 = some (.lst [.ref a1, .ref a2, .ref a3, .ref a4, .ref a5, .ref a6, .ref a7, .ref a8, .ref a9, .ref a10, .ref a11, .ref a12, .ref a13, .ref a14, .ref a15, .ref a16, .ref a17, .ref a18, .ref a19, .ref a20, .ref a21, .ref a22, .ref a23]) := upd_same
    exact ⟨_, rfl, q _ [a1, a2, a3, a4, a5, a6, a7, a8, a9, a10, a11, a12, a13, a14, a15, a16, a17, a18, a19, a20, a21, a22, a23] _ D7 M7 (.cons z1_7 (.cons z2_7 (.cons z3_7 (.cons z4_7 (.cons z5_7 (.cons z6_7 (.cons z7_7 (.cons z8_7 (.cons z9_7 (.cons z10_7 (.cons z11_7 (.cons z12_7 (.cons z13_7 (.cons z14_7 (.cons z15_7 (.cons z16_7 (.cons z17_7 (.cons z18_7 (.cons z19_7 (.cons z20_7 (.cons z21_7 (.cons z22_7 (.cons z23_7 .nil)))))))))))))))))))))))⟩
end
end K1
/-! law k01: kinds, bases -/
namespace K1
open PySem PySem.Spec PyProof.Rows L2 EX He XH
def names23 : List Str := ["InvalidInteger", "InvalidName", "InvalidPlace", "InvalidPlaces", "InvalidFact", "InvalidFacts", "InvalidSetting", "InvalidStep", "InvalidHand", "InvalidProgram", "InvalidWeaving", "InvalidPattern", "InvalidStates", "InvalidGuard", "InvalidGuards", "InvalidText", "InvalidLine", "InvalidCommand", "Unordered", "NotReady", "NoProgram", "NothingToUndo", "NoTrial"]
def leNames : List Str := ["NotReady", "NoProgram", "NothingToUndo", "NoTrial", "StateError"]
def subF (x y : Str) : Bool := decide (x = y) || (decide (y = "MapError") && !decide (x ∈ leNames)) || (decide (y = "StateError") && decide (x ∈ leNames))
def subT (x : Str) (y : String) : Bool := if decide (y = "ValueError") then !decide (x ∈ leNames) else decide (x ∈ leNames)
def all25 : List Str := names23 ++ (["MapError", "StateError"] : List Str)
structure TK (K : PySem.W.Frag) (mg : Str → Option Value) : Prop where
  isi : mg "isinstance" = none
  nV : mg "ValueError" = none
  nL : mg "LookupError" = none
  glo : ∀ {x : Str}, x ∈ all25 → mg x = some (.ref (ga K x))
  ec : ∀ {x : Str}, x ∈ all25 → ExcC K (ga K x)
  kit : ∀ {x y : Str}, x ∈ all25 → y ∈ all25 → PySem.W.kitOne K (.ref (ga K x)) (.ref (ga K y)) = some (subF x y)
  kty : ∀ {x : Str} {y : String}, x ∈ all25 → y ∈ ["ValueError", "LookupError"] → PySem.W.kitOne K (.ref (ga K x)) (.type y) = some (subT x y)
def kindsOf (x : Str) : List V := names23.map fun y => .bl (subF x y)
def basesOf (x : Str) : List V := [.bl (subF x "MapError"), .bl (subF x "StateError"), .bl (subT x "ValueError"), .bl (subT x "LookupError")]
def spKinds (K : PySem.W.Frag) : Sp := fun vs H Q _ => ∃ (a : Addr) (x : Str) (fs : List (Str × V)), vs = [.ref a] ∧ x ∈ all25 ∧ IsX H a (ga K x) fs ∧ ∀ (p : Addr) (H' : Hp), Same H H' → H' p = some (.lst (kindsOf x)) → Q (.ref p) H'
def spBases (K : PySem.W.Frag) : Sp := fun vs H Q _ => ∃ (a : Addr) (x : Str) (fs : List (Str × V)), vs = [.ref a] ∧ x ∈ all25 ∧ IsX H a (ga K x) fs ∧ ∀ (p : Addr) (H' : Hp), Same H H' → H' p = some (.lst (basesOf x)) → Q (.ref p) H'
section
variable {P : Program} {w : World} {K : PySem.W.Frag} {mg : Str → Option Value} {base : Heap} {f : Addr} {fd : FuncData}
abbrev sKinds : Stmt := top 32
abbrev sBases : Stmt := top 33
theorem sc_kinds : FnScope ["_law_e", "_law_found"] ["_law_e"] (defScope sKinds) := ⟨rfl, rfl, rfl, by decide +kernel, rfl, by decide +kernel, by decide +kernel⟩
theorem ok_kinds (F : FnP K "_law_kinds" sKinds f fd) (T : TK K mg) : FnOk P w K mg base CX0 1 f fd ["_law_e"] (spKinds K) := by
  have nd := sc_kinds.nd
  refine F.ok sc_kinds (fun vs H Q E h => ?_) (fun cdv A outer s H vs Q E hr h => ?_)
  · obtain ⟨a, x, fs, rfl, _⟩ := h
    rfl
  · obtain ⟨a, x, fs, rfl, hx, ix, q⟩ := h
    have ec := T.ec hx
    refine ⟨_, PSs.nox (pss_cons (ps_set (i := 1) nd rfl (.inl rfl) (pe_lst (pa_cons (pe_callB call_isx (by rfl) T.isi (by decide +kernel) (pa_cons (pv 0) (pa_cons (pe_glob (v := .ref (ga K "InvalidInteger")) (by rfl) (T.glo (x := "InvalidInteger") (by decide +kernel)) rfl) pa_nil))) (pa_cons (pe_callB call_isx (by rfl) T.isi (by decide +kernel) (pa_cons (pv 0) (pa_cons (pe_glob (v := .ref (ga K "InvalidName")) (by rfl) (T.glo (x := "InvalidName") (by decide +kernel)) rfl) pa_nil))) (pa_cons (pe_callB call_isx (by rfl) T.isi (by decide +kernel) (pa_cons (pv 0) (pa_cons (pe_glob (v := .ref (ga K "InvalidPlace")) (by rfl) (T.glo (x := "InvalidPlace") (by decide +kernel)) rfl) pa_nil))) pa_nil)))))
      (pss_cons (ps_set (i := 1) nd rfl (.inl rfl) (pe_op op_cat (pv 1) (pe_lst (pa_cons (pe_callB call_isx (by rfl) T.isi (by decide +kernel) (pa_cons (pv 0) (pa_cons (pe_glob (v := .ref (ga K "InvalidPlaces")) (by rfl) (T.glo (x := "InvalidPlaces") (by decide +kernel)) rfl) pa_nil))) (pa_cons (pe_callB call_isx (by rfl) T.isi (by decide +kernel) (pa_cons (pv 0) (pa_cons (pe_glob (v := .ref (ga K "InvalidFact")) (by rfl) (T.glo (x := "InvalidFact") (by decide +kernel)) rfl) pa_nil))) (pa_cons (pe_callB call_isx (by rfl) T.isi (by decide +kernel) (pa_cons (pv 0) (pa_cons (pe_glob (v := .ref (ga K "InvalidFacts")) (by rfl) (T.glo (x := "InvalidFacts") (by decide +kernel)) rfl) pa_nil))) pa_nil))))))
      (pss_cons (ps_set (i := 1) nd rfl (.inl rfl) (pe_op op_cat (pv 1) (pe_lst (pa_cons (pe_callB call_isx (by rfl) T.isi (by decide +kernel) (pa_cons (pv 0) (pa_cons (pe_glob (v := .ref (ga K "InvalidSetting")) (by rfl) (T.glo (x := "InvalidSetting") (by decide +kernel)) rfl) pa_nil))) (pa_cons (pe_callB call_isx (by rfl) T.isi (by decide +kernel) (pa_cons (pv 0) (pa_cons (pe_glob (v := .ref (ga K "InvalidStep")) (by rfl) (T.glo (x := "InvalidStep") (by decide +kernel)) rfl) pa_nil))) (pa_cons (pe_callB call_isx (by rfl) T.isi (by decide +kernel) (pa_cons (pv 0) (pa_cons (pe_glob (v := .ref (ga K "InvalidHand")) (by rfl) (T.glo (x := "InvalidHand") (by decide +kernel)) rfl) pa_nil))) pa_nil))))))
      (pss_cons (ps_set (i := 1) nd rfl (.inl rfl) (pe_op op_cat (pv 1) (pe_lst (pa_cons (pe_callB call_isx (by rfl) T.isi (by decide +kernel) (pa_cons (pv 0) (pa_cons (pe_glob (v := .ref (ga K "InvalidProgram")) (by rfl) (T.glo (x := "InvalidProgram") (by decide +kernel)) rfl) pa_nil))) (pa_cons (pe_callB call_isx (by rfl) T.isi (by decide +kernel) (pa_cons (pv 0) (pa_cons (pe_glob (v := .ref (ga K "InvalidWeaving")) (by rfl) (T.glo (x := "InvalidWeaving") (by decide +kernel)) rfl) pa_nil))) (pa_cons (pe_callB call_isx (by rfl) T.isi (by decide +kernel) (pa_cons (pv 0) (pa_cons (pe_glob (v := .ref (ga K "InvalidPattern")) (by rfl) (T.glo (x := "InvalidPattern") (by decide +kernel)) rfl) pa_nil))) pa_nil))))))
      (pss_cons (ps_set (i := 1) nd rfl (.inl rfl) (pe_op op_cat (pv 1) (pe_lst (pa_cons (pe_callB call_isx (by rfl) T.isi (by decide +kernel) (pa_cons (pv 0) (pa_cons (pe_glob (v := .ref (ga K "InvalidStates")) (by rfl) (T.glo (x := "InvalidStates") (by decide +kernel)) rfl) pa_nil))) (pa_cons (pe_callB call_isx (by rfl) T.isi (by decide +kernel) (pa_cons (pv 0) (pa_cons (pe_glob (v := .ref (ga K "InvalidGuard")) (by rfl) (T.glo (x := "InvalidGuard") (by decide +kernel)) rfl) pa_nil))) (pa_cons (pe_callB call_isx (by rfl) T.isi (by decide +kernel) (pa_cons (pv 0) (pa_cons (pe_glob (v := .ref (ga K "InvalidGuards")) (by rfl) (T.glo (x := "InvalidGuards") (by decide +kernel)) rfl) pa_nil))) pa_nil))))))
      (pss_cons (ps_set (i := 1) nd rfl (.inl rfl) (pe_op op_cat (pv 1) (pe_lst (pa_cons (pe_callB call_isx (by rfl) T.isi (by decide +kernel) (pa_cons (pv 0) (pa_cons (pe_glob (v := .ref (ga K "InvalidText")) (by rfl) (T.glo (x := "InvalidText") (by decide +kernel)) rfl) pa_nil))) (pa_cons (pe_callB call_isx (by rfl) T.isi (by decide +kernel) (pa_cons (pv 0) (pa_cons (pe_glob (v := .ref (ga K "InvalidLine")) (by rfl) (T.glo (x := "InvalidLine") (by decide +kernel)) rfl) pa_nil))) (pa_cons (pe_callB call_isx (by rfl) T.isi (by decide +kernel) (pa_cons (pv 0) (pa_cons (pe_glob (v := .ref (ga K "InvalidCommand")) (by rfl) (T.glo (x := "InvalidCommand") (by decide +kernel)) rfl) pa_nil))) pa_nil))))))
      (pss_cons (ps_set (i := 1) nd rfl (.inl rfl) (pe_op op_cat (pv 1) (pe_lst (pa_cons (pe_callB call_isx (by rfl) T.isi (by decide +kernel) (pa_cons (pv 0) (pa_cons (pe_glob (v := .ref (ga K "Unordered")) (by rfl) (T.glo (x := "Unordered") (by decide +kernel)) rfl) pa_nil))) (pa_cons (pe_callB call_isx (by rfl) T.isi (by decide +kernel) (pa_cons (pv 0) (pa_cons (pe_glob (v := .ref (ga K "NotReady")) (by rfl) (T.glo (x := "NotReady") (by decide +kernel)) rfl) pa_nil))) (pa_cons (pe_callB call_isx (by rfl) T.isi (by decide +kernel) (pa_cons (pv 0) (pa_cons (pe_glob (v := .ref (ga K "NoProgram")) (by rfl) (T.glo (x := "NoProgram") (by decide +kernel)) rfl) pa_nil))) pa_nil))))))
      (pss_cons (ps_set (i := 1) nd rfl (.inl rfl) (pe_op op_cat (pv 1) (pe_lst (pa_cons (pe_callB call_isx (by rfl) T.isi (by decide +kernel) (pa_cons (pv 0) (pa_cons (pe_glob (v := .ref (ga K "NothingToUndo")) (by rfl) (T.glo (x := "NothingToUndo") (by decide +kernel)) rfl) pa_nil))) (pa_cons (pe_callB call_isx (by rfl) T.isi (by decide +kernel) (pa_cons (pv 0) (pa_cons (pe_glob (v := .ref (ga K "NoTrial")) (by rfl) (T.glo (x := "NoTrial") (by decide +kernel)) rfl) pa_nil))) pa_nil)))))
      (pss_one (ps_ret (pv 1))))))))))), ?_⟩
    refine ⟨_, rfl, a, ga K x, fs, .ref (ga K "InvalidInteger"), _, subF x "InvalidInteger", rfl, ix, ec, rfl, T.kit hx (by decide +kernel), ⟨_, rfl, a, ga K x, fs, .ref (ga K "InvalidName"), _, subF x "InvalidName", rfl, ix, ec, rfl, T.kit hx (by decide +kernel), ⟨_, rfl, a, ga K x, fs, .ref (ga K "InvalidPlace"), _, subF x "InvalidPlace", rfl, ix, ec, rfl, T.kit hx (by decide +kernel), ⟨(by show 3 ≤ sizeLine; decide), fun p0 hp0 => ?_⟩⟩⟩⟩
    have s0 : Same H (upd H p0 (.lst [.bl (subF x "InvalidInteger"), .bl (subF x "InvalidName"), .bl (subF x "InvalidPlace")])) := fun b o e => by rw [upd_ne (ne_of_none e hp0)]; exact e
    generalize hH0 : upd H p0 (.lst [.bl (subF x "InvalidInteger"), .bl (subF x "InvalidName"), .bl (subF x "InvalidPlace")]) = H0 at s0
    have l0 : H0 p0 = some (.lst [.bl (subF x "InvalidInteger"), .bl (subF x "InvalidName"), .bl (subF x "InvalidPlace")]) := by rw [← hH0]; exact upd_same
    have i0 := ix.same s0
    have S0 : Same H H0 := s0
    refine ⟨_, rfl, ⟨_, rfl, a, ga K x, fs, .ref (ga K "InvalidPlaces"), _, subF x "InvalidPlaces", rfl, i0, ec, rfl, T.kit hx (by decide +kernel), ⟨_, rfl, a, ga K x, fs, .ref (ga K "InvalidFact"), _, subF x "InvalidFact", rfl, i0, ec, rfl, T.kit hx (by decide +kernel), ⟨_, rfl, a, ga K x, fs, .ref (ga K "InvalidFacts"), _, subF x "InvalidFacts", rfl, i0, ec, rfl, T.kit hx (by decide +kernel), ⟨(by show 3 ≤ sizeLine; decide), fun p1 hp1 => ?_⟩⟩⟩⟩⟩
    have s1 : Same H0 (upd H0 p1 (.lst [.bl (subF x "InvalidPlaces"), .bl (subF x "InvalidFact"), .bl (subF x "InvalidFacts")])) := fun b o e => by rw [upd_ne (ne_of_none e hp1)]; exact e
    generalize hH1 : upd H0 p1 (.lst [.bl (subF x "InvalidPlaces"), .bl (subF x "InvalidFact"), .bl (subF x "InvalidFacts")]) = H1 at s1
    have l1 : H1 p1 = some (.lst [.bl (subF x "InvalidPlaces"), .bl (subF x "InvalidFact"), .bl (subF x "InvalidFacts")]) := by rw [← hH1]; exact upd_same
    have i1 := i0.same s1
    have S1 : Same H H1 := S0.trans s1
    refine ⟨_, p1, _, _, rfl, rfl, s1 _ _ l0, l1, (by show 3 + 3 ≤ sizeLine; decide), fun r1 hr1 => ?_⟩
    have t1 : Same H1 (upd H1 r1 (.lst ([.bl (subF x "InvalidInteger"), .bl (subF x "InvalidName"), .bl (subF x "InvalidPlace")] ++ [.bl (subF x "InvalidPlaces"), .bl (subF x "InvalidFact"), .bl (subF x "InvalidFacts")]))) := fun b o e => by rw [upd_ne (ne_of_none e hr1)]; exact e
    generalize hG1 : upd H1 r1 (.lst ([.bl (subF x "InvalidInteger"), .bl (subF x "InvalidName"), .bl (subF x "InvalidPlace")] ++ [.bl (subF x "InvalidPlaces"), .bl (subF x "InvalidFact"), .bl (subF x "InvalidFacts")])) = G1 at t1
    have m1 : G1 r1 = some (.lst [.bl (subF x "InvalidInteger"), .bl (subF x "InvalidName"), .bl (subF x "InvalidPlace"), .bl (subF x "InvalidPlaces"), .bl (subF x "InvalidFact"), .bl (subF x "InvalidFacts")]) := by rw [← hG1]; exact upd_same
    have j1 := i1.same t1
    have T1 : Same H G1 := S1.trans t1
    refine ⟨_, rfl, ⟨_, rfl, a, ga K x, fs, .ref (ga K "InvalidSetting"), _, subF x "InvalidSetting", rfl, j1, ec, rfl, T.kit hx (by decide +kernel), ⟨_, rfl, a, ga K x, fs, .ref (ga K "InvalidStep"), _, subF x "InvalidStep", rfl, j1, ec, rfl, T.kit hx (by decide +kernel), ⟨_, rfl, a, ga K x, fs, .ref (ga K "InvalidHand"), _, subF x "InvalidHand", rfl, j1, ec, rfl, T.kit hx (by decide +kernel), ⟨(by show 3 ≤ sizeLine; decide), fun p2 hp2 => ?_⟩⟩⟩⟩⟩
    have s2 : Same G1 (upd G1 p2 (.lst [.bl (subF x "InvalidSetting"), .bl (subF x "InvalidStep"), .bl (subF x "InvalidHand")])) := fun b o e => by rw [upd_ne (ne_of_none e hp2)]; exact e
    generalize hH2 : upd G1 p2 (.lst [.bl (subF x "InvalidSetting"), .bl (subF x "InvalidStep"), .bl (subF x "InvalidHand")]) = H2 at s2
    have l2 : H2 p2 = some (.lst [.bl (subF x "InvalidSetting"), .bl (subF x "InvalidStep"), .bl (subF x "InvalidHand")]) := by rw [← hH2]; exact upd_same
    have i2 := j1.same s2
    have S2 : Same H H2 := T1.trans s2
    refine ⟨_, p2, _, _, rfl, rfl, s2 _ _ m1, l2, (by show 6 + 3 ≤ sizeLine; decide), fun r2 hr2 => ?_⟩
    have t2 : Same H2 (upd H2 r2 (.lst ([.bl (subF x "InvalidInteger"), .bl (subF x "InvalidName"), .bl (subF x "InvalidPlace"), .bl (subF x "InvalidPlaces"), .bl (subF x "InvalidFact"), .bl (subF x "InvalidFacts")] ++ [.bl (subF x "InvalidSetting"), .bl (subF x "InvalidStep"), .bl (subF x "InvalidHand")]))) := fun b o e => by rw [upd_ne (ne_of_none e hr2)]; exact e
    generalize hG2 : upd H2 r2 (.lst ([.bl (subF x "InvalidInteger"), .bl (subF x "InvalidName"), .bl (subF x "InvalidPlace"), .bl (subF x "InvalidPlaces"), .bl (subF x "InvalidFact"), .bl (subF x "InvalidFacts")] ++ [.bl (subF x "InvalidSetting"), .bl (subF x "InvalidStep"), .bl (subF x "InvalidHand")])) = G2 at t2
    have m2 : G2 r2 = some (.lst [.bl (subF x "InvalidInteger"), .bl (subF x "InvalidName"), .bl (subF x "InvalidPlace"), .bl (subF x "InvalidPlaces"), .bl (subF x "InvalidFact"), .bl (subF x "InvalidFacts"), .bl (subF x "InvalidSetting"), .bl (subF x "InvalidStep"), .bl (subF x "InvalidHand")]) := by rw [← hG2]; exact upd_same
    have j2 := i2.same t2
    have T2 : Same H G2 := S2.trans t2
    refine ⟨_, rfl, ⟨_, rfl, a, ga K x, fs, .ref (ga K "InvalidProgram"), _, subF x "InvalidProgram", rfl, j2, ec, rfl, T.kit hx (by decide +kernel), ⟨_, rfl, a, ga K x, fs, .ref (ga K "InvalidWeaving"), _, subF x "InvalidWeaving", rfl, j2, ec, rfl, T.kit hx (by decide +kernel), ⟨_, rfl, a, ga K x, fs, .ref (ga K "InvalidPattern"), _, subF x "InvalidPattern", rfl, j2, ec, rfl, T.kit hx (by decide +kernel), ⟨(by show 3 ≤ sizeLine; decide), fun p3 hp3 => ?_⟩⟩⟩⟩⟩
    have s3 : Same G2 (upd G2 p3 (.lst [.bl (subF x "InvalidProgram"), .bl (subF x "InvalidWeaving"), .bl (subF x "InvalidPattern")])) := fun b o e => by rw [upd_ne (ne_of_none e hp3)]; exact e
    generalize hH3 : upd G2 p3 (.lst [.bl (subF x "InvalidProgram"), .bl (subF x "InvalidWeaving"), .bl (subF x "InvalidPattern")]) = H3 at s3
    have l3 : H3 p3 = some (.lst [.bl (subF x "InvalidProgram"), .bl (subF x "InvalidWeaving"), .bl (subF x "InvalidPattern")]) := by rw [← hH3]; exact upd_same
    have i3 := j2.same s3
    have S3 : Same H H3 := T2.trans s3
    refine ⟨_, p3, _, _, rfl, rfl, s3 _ _ m2, l3, (by show 9 + 3 ≤ sizeLine; decide), fun r3 hr3 => ?_⟩
    have t3 : Same H3 (upd H3 r3 (.lst ([.bl (subF x "InvalidInteger"), .bl (subF x "InvalidName"), .bl (subF x "InvalidPlace"), .bl (subF x "InvalidPlaces"), .bl (subF x "InvalidFact"), .bl (subF x "InvalidFacts"), .bl (subF x "InvalidSetting"), .bl (subF x "InvalidStep"), .bl (subF x "InvalidHand")] ++ [.bl (subF x "InvalidProgram"), .bl (subF x "InvalidWeaving"), .bl (subF x "InvalidPattern")]))) := fun b o e => by rw [upd_ne (ne_of_none e hr3)]; exact e
    generalize hG3 : upd H3 r3 (.lst ([.bl (subF x "InvalidInteger"), .bl (subF x "InvalidName"), .bl (subF x "InvalidPlace"), .bl (subF x "InvalidPlaces"), .bl (subF x "InvalidFact"), .bl (subF x "InvalidFacts"), .bl (subF x "InvalidSetting"), .bl (subF x "InvalidStep"), .bl (subF x "InvalidHand")] ++ [.bl (subF x "InvalidProgram"), .bl (subF x "InvalidWeaving"), .bl (subF x "InvalidPattern")])) = G3 at t3
    have m3 : G3 r3 = some (.lst [.bl (subF x "InvalidInteger"), .bl (subF x "InvalidName"), .bl (subF x "InvalidPlace"), .bl (subF x "InvalidPlaces"), .bl (subF x "InvalidFact"), .bl (subF x "InvalidFacts"), .bl (subF x "InvalidSetting"), .bl (subF x "InvalidStep"), .bl (subF x "InvalidHand"), .bl (subF x "InvalidProgram"), .bl (subF x "InvalidWeaving"), .bl (subF x "InvalidPattern")]) := by rw [← hG3]; exact upd_same
    have j3 := i3.same t3
    have T3 : Same H G3 := S3.trans t3
    refine ⟨_, rfl, ⟨_, rfl, a, ga K x, fs, .ref (ga K "InvalidStates"), _, subF x "InvalidStates", rfl, j3, ec, rfl, T.kit hx (by decide +kernel), ⟨_, rfl, a, ga K x, fs, .ref (ga K "InvalidGuard"), _, subF x "InvalidGuard", rfl, j3, ec, rfl, T.kit hx (by decide +kernel), ⟨_, rfl, a, ga K x, fs, .ref (ga K "InvalidGuards"), _, subF x "InvalidGuards", rfl, j3, ec, rfl, T.kit hx (by decide +kernel), ⟨(by show 3 ≤ sizeLine; decide), fun p4 hp4 => ?_⟩⟩⟩⟩⟩
    have s4 : Same G3 (upd G3 p4 (.lst [.bl (subF x "InvalidStates"), .bl (subF x "InvalidGuard"), .bl (subF x "InvalidGuards")])) := fun b o e => by rw [upd_ne (ne_of_none e hp4)]; exact e
    generalize hH4 : upd G3 p4 (.lst [.bl (subF x "InvalidStates"), .bl (subF x "InvalidGuard"), .bl (subF x "InvalidGuards")]) = H4 at s4
    have l4 : H4 p4 = some (.lst [.bl (subF x "InvalidStates"), .bl (subF x "InvalidGuard"), .bl (subF x "InvalidGuards")]) := by rw [← hH4]; exact upd_same
    have i4 := j3.same s4
    have S4 : Same H H4 := T3.trans s4
    refine ⟨_, p4, _, _, rfl, rfl, s4 _ _ m3, l4, (by show 12 + 3 ≤ sizeLine; decide), fun r4 hr4 => ?_⟩
    have t4 : Same H4 (upd H4 r4 (.lst ([.bl (subF x "InvalidInteger"), .bl (subF x "InvalidName"), .bl (subF x "InvalidPlace"), .bl (subF x "InvalidPlaces"), .bl (subF x "InvalidFact"), .bl (subF x "InvalidFacts"), .bl (subF x "InvalidSetting"), .bl (subF x "InvalidStep"), .bl (subF x "InvalidHand"), .bl (subF x "InvalidProgram"), .bl (subF x "InvalidWeaving"), .bl (subF x "InvalidPattern")] ++ [.bl (subF x "InvalidStates"), .bl (subF x "InvalidGuard"), .bl (subF x "InvalidGuards")]))) := fun b o e => by rw [upd_ne (ne_of_none e hr4)]; exact e
    generalize hG4 : upd H4 r4 (.lst ([.bl (subF x "InvalidInteger"), .bl (subF x "InvalidName"), .bl (subF x "InvalidPlace"), .bl (subF x "InvalidPlaces"), .bl (subF x "InvalidFact"), .bl (subF x "InvalidFacts"), .bl (subF x "InvalidSetting"), .bl (subF x "InvalidStep"), .bl (subF x "InvalidHand"), .bl (subF x "InvalidProgram"), .bl (subF x "InvalidWeaving"), .bl (subF x "InvalidPattern")] ++ [.bl (subF x "InvalidStates"), .bl (subF x "InvalidGuard"), .bl (subF x "InvalidGuards")])) = G4 at t4
    have m4 : G4 r4 = some (.lst [.bl (subF x "InvalidInteger"), .bl (subF x "InvalidName"), .bl (subF x "InvalidPlace"), .bl (subF x "InvalidPlaces"), .bl (subF x "InvalidFact"), .bl (subF x "InvalidFacts"), .bl (subF x "InvalidSetting"), .bl (subF x "InvalidStep"), .bl (subF x "InvalidHand"), .bl (subF x "InvalidProgram"), .bl (subF x "InvalidWeaving"), .bl (subF x "InvalidPattern"), .bl (subF x "InvalidStates"), .bl (subF x "InvalidGuard"), .bl (subF x "InvalidGuards")]) := by rw [← hG4]; exact upd_same
    have j4 := i4.same t4
    have T4 : Same H G4 := S4.trans t4
    refine ⟨_, rfl, ⟨_, rfl, a, ga K x, fs, .ref (ga K "InvalidText"), _, subF x "InvalidText", rfl, j4, ec, rfl, T.kit hx (by decide +kernel), ⟨_, rfl, a, ga K x, fs, .ref (ga K "InvalidLine"), _, subF x "InvalidLine", rfl, j4, ec, rfl, T.kit hx (by decide +kernel), ⟨_, rfl, a, ga K x, fs, .ref (ga K "InvalidCommand"), _, subF x "InvalidCommand", rfl, j4, ec, rfl, T.kit hx (by decide +kernel), ⟨(by show 3 ≤ sizeLine; decide), fun p5 hp5 => ?_⟩⟩⟩⟩⟩
    have s5 : Same G4 (upd G4 p5 (.lst [.bl (subF x "InvalidText"), .bl (subF x "InvalidLine"), .bl (subF x "InvalidCommand")])) := fun b o e => by rw [upd_ne (ne_of_none e hp5)]; exact e
    generalize hH5 : upd G4 p5 (.lst [.bl (subF x "InvalidText"), .bl (subF x "InvalidLine"), .bl (subF x "InvalidCommand")]) = H5 at s5
    have l5 : H5 p5 = some (.lst [.bl (subF x "InvalidText"), .bl (subF x "InvalidLine"), .bl (subF x "InvalidCommand")]) := by rw [← hH5]; exact upd_same
    have i5 := j4.same s5
    have S5 : Same H H5 := T4.trans s5
    refine ⟨_, p5, _, _, rfl, rfl, s5 _ _ m4, l5, (by show 15 + 3 ≤ sizeLine; decide), fun r5 hr5 => ?_⟩
    have t5 : Same H5 (upd H5 r5 (.lst ([.bl (subF x "InvalidInteger"), .bl (subF x "InvalidName"), .bl (subF x "InvalidPlace"), .bl (subF x "InvalidPlaces"), .bl (subF x "InvalidFact"), .bl (subF x "InvalidFacts"), .bl (subF x "InvalidSetting"), .bl (subF x "InvalidStep"), .bl (subF x "InvalidHand"), .bl (subF x "InvalidProgram"), .bl (subF x "InvalidWeaving"), .bl (subF x "InvalidPattern"), .bl (subF x "InvalidStates"), .bl (subF x "InvalidGuard"), .bl (subF x "InvalidGuards")] ++ [.bl (subF x "InvalidText"), .bl (subF x "InvalidLine"), .bl (subF x "InvalidCommand")]))) := fun b o e => by rw [upd_ne (ne_of_none e hr5)]; exact e
    generalize hG5 : upd H5 r5 (.lst ([.bl (subF x "InvalidInteger"), .bl (subF x "InvalidName"), .bl (subF x "InvalidPlace"), .bl (subF x "InvalidPlaces"), .bl (subF x "InvalidFact"), .bl (subF x "InvalidFacts"), .bl (subF x "InvalidSetting"), .bl (subF x "InvalidStep"), .bl (subF x "InvalidHand"), .bl (subF x "InvalidProgram"), .bl (subF x "InvalidWeaving"), .bl (subF x "InvalidPattern"), .bl (subF x "InvalidStates"), .bl (subF x "InvalidGuard"), .bl (subF x "InvalidGuards")] ++ [.bl (subF x "InvalidText"), .bl (subF x "InvalidLine"), .bl (subF x "InvalidCommand")])) = G5 at t5
    have m5 : G5 r5 = some (.lst [.bl (subF x "InvalidInteger"), .bl (subF x "InvalidName"), .bl (subF x "InvalidPlace"), .bl (subF x "InvalidPlaces"), .bl (subF x "InvalidFact"), .bl (subF x "InvalidFacts"), .bl (subF x "InvalidSetting"), .bl (subF x "InvalidStep"), .bl (subF x "InvalidHand"), .bl (subF x "InvalidProgram"), .bl (subF x "InvalidWeaving"), .bl (subF x "InvalidPattern"), .bl (subF x "InvalidStates"), .bl (subF x "InvalidGuard"), .bl (subF x "InvalidGuards"), .bl (subF x "InvalidText"), .bl (subF x "InvalidLine"), .bl (subF x "InvalidCommand")]) := by rw [← hG5]; exact upd_same
    have j5 := i5.same t5
    have T5 : Same H G5 := S5.trans t5
    refine ⟨_, rfl, ⟨_, rfl, a, ga K x, fs, .ref (ga K "Unordered"), _, subF x "Unordered", rfl, j5, ec, rfl, T.kit hx (by decide +kernel), ⟨_, rfl, a, ga K x, fs, .ref (ga K "NotReady"), _, subF x "NotReady", rfl, j5, ec, rfl, T.kit hx (by decide +kernel), ⟨_, rfl, a, ga K x, fs, .ref (ga K "NoProgram"), _, subF x "NoProgram", rfl, j5, ec, rfl, T.kit hx (by decide +kernel), ⟨(by show 3 ≤ sizeLine; decide), fun p6 hp6 => ?_⟩⟩⟩⟩⟩
    have s6 : Same G5 (upd G5 p6 (.lst [.bl (subF x "Unordered"), .bl (subF x "NotReady"), .bl (subF x "NoProgram")])) := fun b o e => by rw [upd_ne (ne_of_none e hp6)]; exact e
    generalize hH6 : upd G5 p6 (.lst [.bl (subF x "Unordered"), .bl (subF x "NotReady"), .bl (subF x "NoProgram")]) = H6 at s6
    have l6 : H6 p6 = some (.lst [.bl (subF x "Unordered"), .bl (subF x "NotReady"), .bl (subF x "NoProgram")]) := by rw [← hH6]; exact upd_same
    have i6 := j5.same s6
    have S6 : Same H H6 := T5.trans s6
    refine ⟨_, p6, _, _, rfl, rfl, s6 _ _ m5, l6, (by show 18 + 3 ≤ sizeLine; decide), fun r6 hr6 => ?_⟩
    have t6 : Same H6 (upd H6 r6 (.lst ([.bl (subF x "InvalidInteger"), .bl (subF x "InvalidName"), .bl (subF x "InvalidPlace"), .bl (subF x "InvalidPlaces"), .bl (subF x "InvalidFact"), .bl (subF x "InvalidFacts"), .bl (subF x "InvalidSetting"), .bl (subF x "InvalidStep"), .bl (subF x "InvalidHand"), .bl (subF x "InvalidProgram"), .bl (subF x "InvalidWeaving"), .bl (subF x "InvalidPattern"), .bl (subF x "InvalidStates"), .bl (subF x "InvalidGuard"), .bl (subF x "InvalidGuards"), .bl (subF x "InvalidText"), .bl (subF x "InvalidLine"), .bl (subF x "InvalidCommand")] ++ [.bl (subF x "Unordered"), .bl (subF x "NotReady"), .bl (subF x "NoProgram")]))) := fun b o e => by rw [upd_ne (ne_of_none e hr6)]; exact e
    generalize hG6 : upd H6 r6 (.lst ([.bl (subF x "InvalidInteger"), .bl (subF x "InvalidName"), .bl (subF x "InvalidPlace"), .bl (subF x "InvalidPlaces"), .bl (subF x "InvalidFact"), .bl (subF x "InvalidFacts"), .bl (subF x "InvalidSetting"), .bl (subF x "InvalidStep"), .bl (subF x "InvalidHand"), .bl (subF x "InvalidProgram"), .bl (subF x "InvalidWeaving"), .bl (subF x "InvalidPattern"), .bl (subF x "InvalidStates"), .bl (subF x "InvalidGuard"), .bl (subF x "InvalidGuards"), .bl (subF x "InvalidText"), .bl (subF x "InvalidLine"), .bl (subF x "InvalidCommand")] ++ [.bl (subF x "Unordered"), .bl (subF x "NotReady"), .bl (subF x "NoProgram")])) = G6 at t6
    have m6 : G6 r6 = some (.lst [.bl (subF x "InvalidInteger"), .bl (subF x "InvalidName"), .bl (subF x "InvalidPlace"), .bl (subF x "InvalidPlaces"), .bl (subF x "InvalidFact"), .bl (subF x "InvalidFacts"), .bl (subF x "InvalidSetting"), .bl (subF x "InvalidStep"), .bl (subF x "InvalidHand"), .bl (subF x "InvalidProgram"), .bl (subF x "InvalidWeaving"), .bl (subF x "InvalidPattern"), .bl (subF x "InvalidStates"), .bl (subF x "InvalidGuard"), .bl (subF x "InvalidGuards"), .bl (subF x "InvalidText"), .bl (subF x "InvalidLine"), .bl (subF x "InvalidCommand"), .bl (subF x "Unordered"), .bl (subF x "NotReady"), .bl (subF x "NoProgram")]) := by rw [← hG6]; exact upd_same
    have j6 := i6.same t6
    have T6 : Same H G6 := S6.trans t6
    refine ⟨_, rfl, ⟨_, rfl, a, ga K x, fs, .ref (ga K "NothingToUndo"), _, subF x "NothingToUndo", rfl, j6, ec, rfl, T.kit hx (by decide +kernel), ⟨_, rfl, a, ga K x, fs, .ref (ga K "NoTrial"), _, subF x "NoTrial", rfl, j6, ec, rfl, T.kit hx (by decide +kernel), ⟨(by show 2 ≤ sizeLine; decide), fun p7 hp7 => ?_⟩⟩⟩⟩
    have s7 : Same G6 (upd G6 p7 (.lst [.bl (subF x "NothingToUndo"), .bl (subF x "NoTrial")])) := fun b o e => by rw [upd_ne (ne_of_none e hp7)]; exact e
    generalize hH7 : upd G6 p7 (.lst [.bl (subF x "NothingToUndo"), .bl (subF x "NoTrial")]) = H7 at s7
    have l7 : H7 p7 = some (.lst [.bl (subF x "NothingToUndo"), .bl (subF x "NoTrial")]) := by rw [← hH7]; exact upd_same
    have i7 := j6.same s7
    have S7 : Same H H7 := T6.trans s7
    refine ⟨_, p7, _, _, rfl, rfl, s7 _ _ m6, l7, (by show 21 + 2 ≤ sizeLine; decide), fun r7 hr7 => ?_⟩
    have t7 : Same H7 (upd H7 r7 (.lst ([.bl (subF x "InvalidInteger"), .bl (subF x "InvalidName"), .bl (subF x "InvalidPlace"), .bl (subF x "InvalidPlaces"), .bl (subF x "InvalidFact"), .bl (subF x "InvalidFacts"), .bl (subF x "InvalidSetting"), .bl (subF x "InvalidStep"), .bl (subF x "InvalidHand"), .bl (subF x "InvalidProgram"), .bl (subF x "InvalidWeaving"), .bl (subF x "InvalidPattern"), .bl (subF x "InvalidStates"), .bl (subF x "InvalidGuard"), .bl (subF x "InvalidGuards"), .bl (subF x "InvalidText"), .bl (subF x "InvalidLine"), .bl (subF x "InvalidCommand"), .bl (subF x "Unordered"), .bl (subF x "NotReady"), .bl (subF x "NoProgram")] ++ [.bl (subF x "NothingToUndo"), .bl (subF x "NoTrial")]))) := fun b o e => by rw [upd_ne (ne_of_none e hr7)]; exact e
    generalize hG7 : upd H7 r7 (.lst ([.bl (subF x "InvalidInteger"), .bl (subF x "InvalidName"), .bl (subF x "InvalidPlace"), .bl (subF x "InvalidPlaces"), .bl (subF x "InvalidFact"), .bl (subF x "InvalidFacts"), .bl (subF x "InvalidSetting"), .bl (subF x "InvalidStep"), .bl (subF x "InvalidHand"), .bl (subF x "InvalidProgram"), .bl (subF x "InvalidWeaving"), .bl (subF x "InvalidPattern"), .bl (subF x "InvalidStates"), .bl (subF x "InvalidGuard"), .bl (subF x "InvalidGuards"), .bl (subF x "InvalidText"), .bl (subF x "InvalidLine"), .bl (subF x "InvalidCommand"), .bl (subF x "Unordered"), .bl (subF x "NotReady"), .bl (subF x "NoProgram")] ++ [.bl (subF x "NothingToUndo"), .bl (subF x "NoTrial")])) = G7 at t7
    have m7 : G7 r7 = some (.lst [.bl (subF x "InvalidInteger"), .bl (subF x "InvalidName"), .bl (subF x "InvalidPlace"), .bl (subF x "InvalidPlaces"), .bl (subF x "InvalidFact"), .bl (subF x "InvalidFacts"), .bl (subF x "InvalidSetting"), .bl (subF x "InvalidStep"), .bl (subF x "InvalidHand"), .bl (subF x "InvalidProgram"), .bl (subF x "InvalidWeaving"), .bl (subF x "InvalidPattern"), .bl (subF x "InvalidStates"), .bl (subF x "InvalidGuard"), .bl (subF x "InvalidGuards"), .bl (subF x "InvalidText"), .bl (subF x "InvalidLine"), .bl (subF x "InvalidCommand"), .bl (subF x "Unordered"), .bl (subF x "NotReady"), .bl (subF x "NoProgram"), .bl (subF x "NothingToUndo"), .bl (subF x "NoTrial")]) := by rw [← hG7]; exact upd_same
    have j7 := i7.same t7
    have T7 : Same H G7 := S7.trans t7
    exact ⟨_, rfl, q _ _ T7 m7⟩
theorem sc_bases : FnScope ["_law_e"] ["_law_e"] (defScope sBases) := ⟨rfl, rfl, rfl, by decide +kernel, rfl, by decide +kernel, by decide +kernel⟩
theorem ok_bases (F : FnP K "_law_bases" sBases f fd) (T : TK K mg) : FnOk P w K mg base CX0 1 f fd ["_law_e"] (spBases K) := by
  refine F.ok sc_bases (fun vs H Q E h => ?_) (fun cdv A outer s H vs Q E hr h => ?_)
  · obtain ⟨a, x, fs, rfl, _⟩ := h
    rfl
  · obtain ⟨a, x, fs, rfl, hx, ix, q⟩ := h
    have ec := T.ec hx
    refine ⟨_, PSs.nox (pss_one (ps_ret (pe_lst (pa_cons (pe_callB call_isx (by rfl) T.isi (by decide +kernel) (pa_cons (pv 0) (pa_cons (pe_glob (v := .ref (ga K "MapError")) (by rfl) (T.glo (x := "MapError") (by decide +kernel)) rfl) pa_nil))) (pa_cons (pe_callB call_isx (by rfl) T.isi (by decide +kernel) (pa_cons (pv 0) (pa_cons (pe_glob (v := .ref (ga K "StateError")) (by rfl) (T.glo (x := "StateError") (by decide +kernel)) rfl) pa_nil))) (pa_cons (pe_callB call_isx (by rfl) T.isi (by decide +kernel) (pa_cons (pv 0) (pa_cons (pe_bltn (by rfl) T.nV (by decide +kernel) (v := .ty "ValueError") rfl) pa_nil))) (pa_cons (pe_callB call_isx (by rfl) T.isi (by decide +kernel) (pa_cons (pv 0) (pa_cons (pe_bltn (by rfl) T.nL (by decide +kernel) (v := .ty "LookupError") rfl) pa_nil))) pa_nil))))))), ?_⟩
    refine ⟨_, rfl, a, ga K x, fs, .ref (ga K "MapError"), _, subF x "MapError", rfl, ix, ec, rfl, T.kit hx (by decide +kernel), ⟨_, rfl, a, ga K x, fs, .ref (ga K "StateError"), _, subF x "StateError", rfl, ix, ec, rfl, T.kit hx (by decide +kernel), ⟨_, rfl, a, ga K x, fs, .ty "ValueError", _, subT x "ValueError", rfl, ix, ec, rfl, T.kty hx (by decide +kernel), ⟨_, rfl, a, ga K x, fs, .ty "LookupError", _, subT x "LookupError", rfl, ix, ec, rfl, T.kty hx (by decide +kernel), ⟨(by show 4 ≤ sizeLine; decide), fun p hp => q p _ (fun b o e => by rw [upd_ne (ne_of_none e hp)]; exact e) upd_same⟩⟩⟩⟩⟩
end
end K1
/-! law k01: the thing drawn -/
namespace K1
open PySem PySem.Spec PyProof.Rows L2 EX He XH RP
/-- a def of the law stands under its name and keeps the promise sp -/
structure Df (P : Program) (w : World) (K : PySem.W.Frag) (mg : Str → Option Value) (base : Heap) (x : Str) (k : Nat) (ps : List Str) (sp : Sp) : Prop where
  ex : ∃ f fd, FnOk P w K mg base CX0 k f fd ps sp ∧ mg x = some (.ref f) ∧ PySem.W.keepIn K (.ref f) = true ∧ Binds K fd ps []
theorem pe_D {X : Cx} {x : Str} {k : Nat} {ps : List Str} {sp : Sp} {p pos : Pos} {e : Expr} {es : List Expr} {t : TA} (D : Df X.prog X.w X.K X.mg X.base x k ps sp) (hr : Room k X.A) (hg : Gl X x) (ha : PA X (e :: es) t) (hdb : (x == ("__debug__" : Str)) = false := by decide)
    (he : starEach (e :: es) X.env = (false, eval e X.env) :: starEach es X.env := by rfl) (hpl : (backTo pos (starEach es X.env)).any (·.1) = false := by rfl) : PE X (.Call (.Name x p) (e :: es) [] pos) (tCall sp [] (fun _ _ _ => False) t) := by
  obtain ⟨f, fd, h1, h2, h3, h4⟩ := D.ex
  exact pe_call h1 hr hg h2 h3 h4 .nil pass0 ha hdb he hpl
/-- a plain value: no object in it -/
structure Sc (v : V) : Prop where
  dv : ∃ d, (∀ H, DV H v d) ∧ Sh d 310 0
  ty : ∃ t : String, (∀ K H, TyOf K H v (.type t)) ∧ t ∈ ["int", "str", "NoneType", "bool"]
theorem Sc.int {i : Int} (h : i.natAbs.log2 < 200) : Sc (.int i) := ⟨⟨_, fun H => .int i, (Sh.int (k := 200) (by decide) h (by decide)).mono (by decide) (Nat.le_refl _)⟩, "int", fun _ _ => .int i, by decide⟩
theorem Sc.str {x : Str} (h : x.length ≤ 30) (hc : ∀ c ∈ x.cps.toList, c < 16 ^ 8) : Sc (.str x) := ⟨⟨_, fun H => .str x, (Sh.str (k := 30) h hc).mono (by decide) (Nat.le_refl _)⟩, "str", fun _ _ => .str x, by decide⟩
theorem Sc.non : Sc .non := ⟨⟨_, fun H => .non, Sh.none.mono (by decide) (Nat.le_refl _)⟩, "NoneType", fun _ _ => .non, by decide⟩
theorem Sc.bl (b : Bool) : Sc (.bl b) := ⟨⟨_, fun H => .bl b, (Sh.bool b).mono (by decide) (Nat.le_refl _)⟩, "bool", fun _ _ => .bl b, by decide⟩
/-- a list of at most n plain values stands at a -/
def Lp (n : Nat) (H : Hp) (a : Addr) : Prop := ∃ xs : List V, H a = some (.lst xs) ∧ xs.length ≤ n ∧ ∀ x ∈ xs, Sc x
/-- the things of the law, with the addresses of their objects -/
inductive Th (n : Nat) (H : Hp) : V → List Addr → Prop
  | sc {v : V} (h : Sc v) : Th n H v []
  | lst {a : Addr} (h : Lp n H a) : Th n H (.ref a) [a]
  | tup {a l : Addr} {x : V} (h : H a = some (.tup [x, .ref l])) (hx : Sc x) (hl : Lp n H l) : Th n H (.ref a) [a, l]
  | dic {a l : Addr} {r : List (Key × V)} (h : H a = some (.dK ((.inr "a", .ref l) :: r))) (hr : r = [] ∨ r = [(.inr "more", .int 7)]) (hl : Lp n H l) : Th n H (.ref a) [a, l]
theorem Lp.same {n : Nat} {H H' : Hp} {a : Addr} (e : Same H H') (h : Lp n H a) : Lp n H' a := by
  obtain ⟨xs, h1, h2⟩ := h
  exact ⟨xs, e _ _ h1, h2⟩
theorem Th.same {n : Nat} {H H' : Hp} {v : V} {as : List Addr} (e : Same H H') (h : Th n H v as) : Th n H' v as := by
  cases h with
  | sc h => exact .sc h
  | lst h => exact .lst (h.same e)
  | tup h hx hl => exact .tup (e _ _ h) hx (hl.same e)
  | dic h hr hl => exact .dic (e _ _ h) hr (hl.same e)
theorem Th.on {n : Nat} {H : Hp} {v : V} {as : List Addr} (h : Th n H v as) : ∀ a ∈ as, H a ≠ none := by
  intro a ha z
  cases h with
  | sc h => cases ha
  | lst h =>
    obtain ⟨xs, h1, _⟩ := h
    cases List.mem_singleton.mp ha
    rw [z] at h1
    cases h1
  | tup h hx hl =>
    obtain ⟨xs, h1, _⟩ := hl
    rcases List.mem_cons.mp ha with e | e
    · subst e
      rw [z] at h
      cases h
    · cases List.mem_singleton.mp e
      rw [z] at h1
      cases h1
  | dic h hr hl =>
    obtain ⟨xs, h1, _⟩ := hl
    rcases List.mem_cons.mp ha with e | e
    · subst e
      rw [z] at h
      cases h
    · cases List.mem_singleton.mp e
      rw [z] at h1
      cases h1
theorem getAll {xs : List V} (h : ∀ x ∈ xs, Sc x) : ∃ ds : List PyData, xs.length = ds.length ∧ (∀ (H : Hp) (i : Nat) (x : V) (d : PyData), xs[i]? = some x → ds[i]? = some d → DV H x d) ∧ ∀ d ∈ ds, Sh d 310 0 := by
  induction xs with
  | nil => exact ⟨[], rfl, fun H i x d h => (by simp at h), fun d h => (by cases h)⟩
  | cons x xs ih =>
    obtain ⟨ds, h1, h2, h3⟩ := ih fun y hy => h y (List.mem_cons_of_mem _ hy)
    obtain ⟨d, hd, sd⟩ := (h x List.mem_cons_self).dv
    refine ⟨d :: ds, congrArg Nat.succ h1, fun H i y e a b => ?_, fun e he => (List.mem_cons.mp he).elim (fun z => z ▸ sd) (h3 e)⟩
    cases i with
    | zero =>
      cases a
      cases b
      exact hd H
    | succ i => exact h2 H i y e a b
theorem Lp.dv {n : Nat} {H : Hp} {a : Addr} (h : Lp n H a) (hn : n ≤ 5) : ∃ d, DV H (.ref a) d ∧ Sh d 1600 1 := by
  obtain ⟨xs, h1, h2, h3⟩ := h
  obtain ⟨ds, e1, e2, e3⟩ := getAll h3
  exact ⟨_, .lst h1 e1 (e2 H), (Sh.list e3).mono (by have : ds.length ≤ 5 := by omega
                                                     have := Nat.mul_le_mul_right 312 this
                                                     omega) (Nat.le_refl _)⟩
theorem Th.dv {n : Nat} {H : Hp} {v : V} {as : List Addr} (h : Th n H v as) (hn : n ≤ 5) : ∃ d, DV H v d ∧ Sh d 8000 2 := by
  cases h with
  | sc h =>
    obtain ⟨d, hd, sd⟩ := h.dv
    exact ⟨d, hd H, sd.mono (by decide) (by decide)⟩
  | lst h =>
    obtain ⟨d, hd, sd⟩ := h.dv hn
    exact ⟨d, hd, sd.mono (by decide) (by decide)⟩
  | tup h hx hl =>
    obtain ⟨d, hd, sd⟩ := hl.dv hn
    obtain ⟨e, he, se⟩ := hx.dv
    refine ⟨.tuple [e, d], .tup h rfl fun i x c a b => ?_, (Sh.tuple (n := 1600) (m := 1) fun c hc => ?_).mono (by show 2 * 1602 + 3 ≤ _; decide) (Nat.le_refl _)⟩
    · match i with
      | 0 => cases a; cases b; exact he H
      | 1 => cases a; cases b; exact hd
      | i + 2 => simp at a
    · rcases List.mem_cons.mp hc with z | z
      · rw [z]
        exact se.mono (by decide) (by decide)
      · rw [List.mem_singleton.mp z]
        exact sd
  | dic h hr hl =>
    obtain ⟨d, hd, sd⟩ := hl.dv hn
    have ka : ∀ x : Str, x.length ≤ 30 → (∀ c ∈ x.cps.toList, c < 16 ^ 8) → Sh (.str x) 1600 1 := fun x h1 h2 => (Sh.str (k := 30) h1 h2).mono (by decide) (by decide)
    rcases hr with rfl | rfl
    · refine ⟨_, .dic (ds := [d]) h rfl fun i x c a b => ?_, (Sh.dict (n := 1600) (m := 1) fun q hq => ?_).mono (by show 1 * 3204 + 2 ≤ _; decide) (Nat.le_refl _)⟩
      · match i with
        | 0 => cases a; cases b; exact hd
        | i + 1 => simp at a
      · cases List.mem_singleton.mp hq
        exact ⟨ka "a" (by decide) (by decide), sd⟩
    · refine ⟨_, .dic (ds := [d, .int 7]) h rfl fun i x c a b => ?_, (Sh.dict (n := 1600) (m := 1) fun q hq => ?_).mono (by show 2 * 3204 + 2 ≤ _; decide) (Nat.le_refl _)⟩
      · match i with
        | 0 => cases a; cases b; exact hd
        | 1 => cases a; cases b; exact .int 7
        | i + 2 => simp at a
      · rcases List.mem_cons.mp hq with z | z
        · rw [z]
          exact ⟨ka "a" (by decide) (by decide), sd⟩
        · cases List.mem_singleton.mp z
          exact ⟨ka "more" (by decide) (by decide), (Sh.int (k := 200) (by decide) (by decide) (by decide)).mono (by decide) (by decide)⟩
end K1
/-! law k01: fields, grown, value -/
namespace K1
open PySem PySem.Spec PyProof.Rows L2 EX He XH RP
theorem new_same {H : Hp} {a : Addr} {o : HO} (h : H a = none) : Same H (upd H a o) := fun b u e => by
  rw [upd_ne (ne_of_none e h)]
  exact e
theorem none_back {H G : Hp} {a : Addr} (e : Same H G) (h : G a = none) : H a = none := by
  cases z : H a with
  | none => rfl
  | some o =>
    rw [e _ _ z] at h
    cases h
theorem item {xs : List Addr} {j : Nat} {b : Addr} (h : xs[j]? = some b) : atI (xs.map V.ref) ((j : Nat) : Int) = some (V.ref b) := atI_nat (by rw [List.getElem?_map, h]; rfl)
theorem Exs.at {K : PySem.W.Frag} {H : Hp} {es : List Addr} {l : List (Str × List (Str × V))} (h : Exs K H es l) : ∀ {i : Nat} {q : Str × List (Str × V)}, l[i]? = some q → ∃ b, es[i]? = some b ∧ IsX H b (ga K q.1) q.2 := by
  unfold Exs at h
  induction h with
  | nil => intro i q z; simp at z
  | @cons a p as ps h t ih =>
    intro i q z
    cases i with
    | zero =>
      cases z
      exact ⟨a, rfl, h⟩
    | succ i => exact ih z
def spFields (K : PySem.W.Frag) : Sp := fun vs H Q _ => ∃ (z : Addr) (t : V) (es : List Addr), vs = [.ref z] ∧ H z = some (.lst (es.map V.ref)) ∧ Exs K H es (tab t) ∧ ∀ p H', Same H H' → H p = none → H' p = some (.lst (List.replicate 21 t)) → Q (.ref p) H'
/-- all but the things of as stays -/
def Out (as : List Addr) (H H' : Hp) : Prop := ∀ b o, b ∉ as → H b = some o → H' b = some o
def spGrown : Sp := fun vs H Q _ => ∃ (v : V) (as : List Addr), vs = [v] ∧ Th 2 H v as ∧ ∀ H', Out as H H' → Th 3 H' v as → Q .non H'
def spValue : Sp := fun vs H Q _ => ∃ p : Addr, vs = [.ref p] ∧ Box H p 0 ∧ ∀ v as H', But p H H' → (∀ a ∈ as, H a = none) → Th 2 H' v as → Q v H'
section
variable {P : Program} {w : World} {K : PySem.W.Frag} {mg : Str → Option Value} {base : Heap} {f : Addr} {fd : FuncData}
abbrev sCaught : Stmt := top 36
abbrev sFields : Stmt := top 34
abbrev sGrown : Stmt := top 35
abbrev sValue : Stmt := top 37
theorem sc_fields : FnScope ["_law_some", "_law_found"] ["_law_some"] (defScope sFields) := ⟨rfl, rfl, rfl, by decide +kernel, rfl, by decide +kernel, by decide +kernel⟩
theorem ok_fields (F : FnP K "_law_fields" sFields f fd) (T : TX P w K mg base) : FnOk P w K mg base CX0 1 f fd ["_law_some"] (spFields K) := by
  have nd := sc_fields.nd
  refine F.ok sc_fields (fun vs H Q E h => ?_) (fun cdv A outer s H vs Q E hr h => ?_)
  · obtain ⟨z, t, es, rfl, _⟩ := h
    rfl
  · obtain ⟨z, t, es, rfl, hz, hx, q⟩ := h
    obtain ⟨b0, g0, x0⟩ := hx.at (i := 0) rfl
    obtain ⟨b1, g1, x1⟩ := hx.at (i := 1) rfl
    obtain ⟨b2, g2, x2⟩ := hx.at (i := 2) rfl
    obtain ⟨b3, g3, x3⟩ := hx.at (i := 3) rfl
    obtain ⟨b4, g4, x4⟩ := hx.at (i := 4) rfl
    obtain ⟨b5, g5, x5⟩ := hx.at (i := 5) rfl
    obtain ⟨b6, g6, x6⟩ := hx.at (i := 6) rfl
    obtain ⟨b7, g7, x7⟩ := hx.at (i := 7) rfl
    obtain ⟨b8, g8, x8⟩ := hx.at (i := 8) rfl
    obtain ⟨b9, g9, x9⟩ := hx.at (i := 9) rfl
    obtain ⟨b10, g10, x10⟩ := hx.at (i := 10) rfl
    obtain ⟨b11, g11, x11⟩ := hx.at (i := 11) rfl
    obtain ⟨b12, g12, x12⟩ := hx.at (i := 12) rfl
    obtain ⟨b13, g13, x13⟩ := hx.at (i := 13) rfl
    obtain ⟨b14, g14, x14⟩ := hx.at (i := 14) rfl
    obtain ⟨b15, g15, x15⟩ := hx.at (i := 15) rfl
    obtain ⟨b16, g16, x16⟩ := hx.at (i := 16) rfl
    obtain ⟨b17, g17, x17⟩ := hx.at (i := 17) rfl
    obtain ⟨b18, g18, x18⟩ := hx.at (i := 18) rfl
    obtain ⟨b19, g19, x19⟩ := hx.at (i := 19) rfl
    refine ⟨_, PSs.nox (pss_cons (ps_set (i := 1) nd rfl (.inl rfl) (pe_lst (pa_cons (pe_xfl (pe_ix ix_list (pv 0) pe_int (fun _ _ => rfl))) (pa_cons (pe_xfl (pe_ix ix_list (pv 0) pe_int (fun _ _ => rfl))) (pa_cons (pe_xfl (pe_ix ix_list (pv 0) pe_int (fun _ _ => rfl))) (pa_cons (pe_xfl (pe_ix ix_list (pv 0) pe_int (fun _ _ => rfl))) (pa_cons (pe_xfl (pe_ix ix_list (pv 0) pe_int (fun _ _ => rfl))) (pa_cons (pe_xfl (pe_ix ix_list (pv 0) pe_int (fun _ _ => rfl))) pa_nil))))))))
      (pss_cons (ps_set (i := 1) nd rfl (.inl rfl) (pe_op op_cat (pv 1) (pe_lst (pa_cons (pe_xfl (pe_ix ix_list (pv 0) pe_int (fun _ _ => rfl))) (pa_cons (pe_xfl (pe_ix ix_list (pv 0) pe_int (fun _ _ => rfl))) (pa_cons (pe_xfl (pe_ix ix_list (pv 0) pe_int (fun _ _ => rfl))) (pa_cons (pe_xfl (pe_ix ix_list (pv 0) pe_int (fun _ _ => rfl))) (pa_cons (pe_xfl (pe_ix ix_list (pv 0) pe_int (fun _ _ => rfl))) (pa_cons (pe_xfl (pe_ix ix_list (pv 0) pe_int (fun _ _ => rfl))) pa_nil)))))))))
      (pss_cons (ps_set (i := 1) nd rfl (.inl rfl) (pe_op op_cat (pv 1) (pe_lst (pa_cons (pe_xfl (pe_ix ix_list (pv 0) pe_int (fun _ _ => rfl))) (pa_cons (pe_xfl (pe_ix ix_list (pv 0) pe_int (fun _ _ => rfl))) (pa_cons (pe_xfl (pe_ix ix_list (pv 0) pe_int (fun _ _ => rfl))) (pa_cons (pe_xfl (pe_ix ix_list (pv 0) pe_int (fun _ _ => rfl))) (pa_cons (pe_xfl (pe_ix ix_list (pv 0) pe_int (fun _ _ => rfl))) (pa_cons (pe_xfl (pe_ix ix_list (pv 0) pe_int (fun _ _ => rfl))) pa_nil)))))))))
      (pss_cons (ps_set (i := 1) nd rfl (.inl rfl) (pe_op op_cat (pv 1) (pe_lst (pa_cons (pe_xfl (pe_ix ix_list (pv 0) pe_int (fun _ _ => rfl))) (pa_cons (pe_xfl (pe_ix ix_list (pv 0) pe_int (fun _ _ => rfl))) (pa_cons (pe_xfl (pe_ix ix_list (pv 0) pe_int (fun _ _ => rfl))) pa_nil))))))
      (pss_one (ps_ret (pv 1))))))), ?_⟩
    refine ⟨_, rfl, z, _, 0, _, rfl, rfl, SqL.of ((Same.refl H) _ _ hz), item g0, b0, _, _, t, rfl, T.m0.ec, T.m0.no "value" (by decide), x0.same (Same.refl H), rfl, ⟨_, rfl, z, _, 1, _, rfl, rfl, SqL.of ((Same.refl H) _ _ hz), item g1, b1, _, _, t, rfl, T.m1.ec, T.m1.no "value" (by decide), x1.same (Same.refl H), rfl, ⟨_, rfl, z, _, 2, _, rfl, rfl, SqL.of ((Same.refl H) _ _ hz), item g2, b2, _, _, t, rfl, T.m2.ec, T.m2.no "value" (by decide), x2.same (Same.refl H), rfl, ⟨_, rfl, z, _, 3, _, rfl, rfl, SqL.of ((Same.refl H) _ _ hz), item g3, b3, _, _, t, rfl, T.m3.ec, T.m3.no "value" (by decide), x3.same (Same.refl H), rfl, ⟨_, rfl, z, _, 4, _, rfl, rfl, SqL.of ((Same.refl H) _ _ hz), item g4, b4, _, _, t, rfl, T.m4.ec, T.m4.no "value" (by decide), x4.same (Same.refl H), rfl, ⟨_, rfl, z, _, 5, _, rfl, rfl, SqL.of ((Same.refl H) _ _ hz), item g5, b5, _, _, t, rfl, T.m5.ec, T.m5.no "value" (by decide), x5.same (Same.refl H), rfl, ⟨(by show 6 ≤ sizeLine; decide), fun p0 hp0 => ?_⟩⟩⟩⟩⟩⟩⟩
    have s0 : Same H (upd H p0 (.lst [t, t, t, t, t, t])) := new_same hp0
    generalize hH0 : upd H p0 (.lst [t, t, t, t, t, t]) = H0 at s0
    have l0 : H0 p0 = some (.lst [t, t, t, t, t, t]) := by rw [← hH0]; exact upd_same
    have S0 : Same H H0 := Same.trans (Same.refl H) s0
    have e0 : H p0 = none := hp0
    refine ⟨_, rfl, ⟨_, rfl, z, _, 6, _, rfl, rfl, SqL.of (S0 _ _ hz), item g6, b6, _, _, t, rfl, T.m6.ec, T.m6.no "value" (by decide), x6.same S0, rfl, ⟨_, rfl, z, _, 7, _, rfl, rfl, SqL.of (S0 _ _ hz), item g7, b7, _, _, t, rfl, T.m7.ec, T.m7.no "value" (by decide), x7.same S0, rfl, ⟨_, rfl, z, _, 8, _, rfl, rfl, SqL.of (S0 _ _ hz), item g8, b8, _, _, t, rfl, T.m8.ec, T.m8.no "value" (by decide), x8.same S0, rfl, ⟨_, rfl, z, _, 9, _, rfl, rfl, SqL.of (S0 _ _ hz), item g9, b9, _, _, t, rfl, T.m9.ec, T.m9.no "value" (by decide), x9.same S0, rfl, ⟨_, rfl, z, _, 10, _, rfl, rfl, SqL.of (S0 _ _ hz), item g10, b10, _, _, t, rfl, T.m10.ec, T.m10.no "value" (by decide), x10.same S0, rfl, ⟨_, rfl, z, _, 11, _, rfl, rfl, SqL.of (S0 _ _ hz), item g11, b11, _, _, t, rfl, T.m11.ec, T.m11.no "value" (by decide), x11.same S0, rfl, ⟨(by show 6 ≤ sizeLine; decide), fun p1 hp1 => ?_⟩⟩⟩⟩⟩⟩⟩⟩
    have s1 : Same H0 (upd H0 p1 (.lst [t, t, t, t, t, t])) := new_same hp1
    generalize hH1 : upd H0 p1 (.lst [t, t, t, t, t, t]) = H1 at s1
    have l1 : H1 p1 = some (.lst [t, t, t, t, t, t]) := by rw [← hH1]; exact upd_same
    have S1 : Same H H1 := Same.trans S0 s1
    refine ⟨_, p1, _, _, rfl, rfl, s1 _ _ l0, l1, (by show 6 + 6 ≤ sizeLine; decide), fun r1 hr1 => ?_⟩
    have e1 : H r1 = none := none_back S1 hr1
    have t1 : Same H1 (upd H1 r1 (.lst ([t, t, t, t, t, t] ++ [t, t, t, t, t, t]))) := new_same hr1
    generalize hG1 : upd H1 r1 (.lst ([t, t, t, t, t, t] ++ [t, t, t, t, t, t])) = G1 at t1
    have m1 : G1 r1 = some (.lst [t, t, t, t, t, t, t, t, t, t, t, t]) := by rw [← hG1]; exact upd_same
    have T1 : Same H G1 := Same.trans S1 t1
    refine ⟨_, rfl, ⟨_, rfl, z, _, 12, _, rfl, rfl, SqL.of (T1 _ _ hz), item g12, b12, _, _, t, rfl, T.m12.ec, T.m12.no "value" (by decide), x12.same T1, rfl, ⟨_, rfl, z, _, 13, _, rfl, rfl, SqL.of (T1 _ _ hz), item g13, b13, _, _, t, rfl, T.m13.ec, T.m13.no "value" (by decide), x13.same T1, rfl, ⟨_, rfl, z, _, 14, _, rfl, rfl, SqL.of (T1 _ _ hz), item g14, b14, _, _, t, rfl, T.m14.ec, T.m14.no "value" (by decide), x14.same T1, rfl, ⟨_, rfl, z, _, 15, _, rfl, rfl, SqL.of (T1 _ _ hz), item g15, b15, _, _, t, rfl, T.m15.ec, T.m15.no "value" (by decide), x15.same T1, rfl, ⟨_, rfl, z, _, 16, _, rfl, rfl, SqL.of (T1 _ _ hz), item g16, b16, _, _, t, rfl, T.m16.ec, T.m16.no "index" (by decide), x16.same T1, rfl, ⟨_, rfl, z, _, 17, _, rfl, rfl, SqL.of (T1 _ _ hz), item g17, b17, _, _, t, rfl, T.m17.ec, T.m17.no "value" (by decide), x17.same T1, rfl, ⟨(by show 6 ≤ sizeLine; decide), fun p2 hp2 => ?_⟩⟩⟩⟩⟩⟩⟩⟩
    have s2 : Same G1 (upd G1 p2 (.lst [t, t, t, t, t, t])) := new_same hp2
    generalize hH2 : upd G1 p2 (.lst [t, t, t, t, t, t]) = H2 at s2
    have l2 : H2 p2 = some (.lst [t, t, t, t, t, t]) := by rw [← hH2]; exact upd_same
    have S2 : Same H H2 := Same.trans T1 s2
    refine ⟨_, p2, _, _, rfl, rfl, s2 _ _ m1, l2, (by show 12 + 6 ≤ sizeLine; decide), fun r2 hr2 => ?_⟩
    have e2 : H r2 = none := none_back S2 hr2
    have t2 : Same H2 (upd H2 r2 (.lst ([t, t, t, t, t, t, t, t, t, t, t, t] ++ [t, t, t, t, t, t]))) := new_same hr2
    generalize hG2 : upd H2 r2 (.lst ([t, t, t, t, t, t, t, t, t, t, t, t] ++ [t, t, t, t, t, t])) = G2 at t2
    have m2 : G2 r2 = some (.lst [t, t, t, t, t, t, t, t, t, t, t, t, t, t, t, t, t, t]) := by rw [← hG2]; exact upd_same
    have T2 : Same H G2 := Same.trans S2 t2
    refine ⟨_, rfl, ⟨_, rfl, z, _, 18, _, rfl, rfl, SqL.of (T2 _ _ hz), item g18, b18, _, _, t, rfl, T.m18.ec, T.m18.no "left" (by decide), x18.same T2, rfl, ⟨_, rfl, z, _, 18, _, rfl, rfl, SqL.of (T2 _ _ hz), item g18, b18, _, _, t, rfl, T.m18.ec, T.m18.no "right" (by decide), x18.same T2, rfl, ⟨_, rfl, z, _, 19, _, rfl, rfl, SqL.of (T2 _ _ hz), item g19, b19, _, _, t, rfl, T.m19.ec, T.m19.no "hand" (by decide), x19.same T2, rfl, ⟨(by show 3 ≤ sizeLine; decide), fun p3 hp3 => ?_⟩⟩⟩⟩⟩
    have s3 : Same G2 (upd G2 p3 (.lst [t, t, t])) := new_same hp3
    generalize hH3 : upd G2 p3 (.lst [t, t, t]) = H3 at s3
    have l3 : H3 p3 = some (.lst [t, t, t]) := by rw [← hH3]; exact upd_same
    have S3 : Same H H3 := Same.trans T2 s3
    refine ⟨_, p3, _, _, rfl, rfl, s3 _ _ m2, l3, (by show 18 + 3 ≤ sizeLine; decide), fun r3 hr3 => ?_⟩
    have e3 : H r3 = none := none_back S3 hr3
    have t3 : Same H3 (upd H3 r3 (.lst ([t, t, t, t, t, t, t, t, t, t, t, t, t, t, t, t, t, t] ++ [t, t, t]))) := new_same hr3
    generalize hG3 : upd H3 r3 (.lst ([t, t, t, t, t, t, t, t, t, t, t, t, t, t, t, t, t, t] ++ [t, t, t])) = G3 at t3
    have m3 : G3 r3 = some (.lst [t, t, t, t, t, t, t, t, t, t, t, t, t, t, t, t, t, t, t, t, t]) := by rw [← hG3]; exact upd_same
    have T3 : Same H G3 := Same.trans S3 t3
    exact ⟨_, rfl, q _ _ T3 e3 m3⟩
structure TG9 (mg : Str → Option Value) : Prop where
  isi : mg "isinstance" = none
  len : mg "len" = none
  nLst : mg "list" = none
  nTup : mg "tuple" = none
  nDic : mg "dict" = none
theorem sc_grown : FnScope ["_law_thing", "_law_rows"] ["_law_thing"] (defScope sGrown) := ⟨rfl, rfl, rfl, by decide +kernel, rfl, by decide +kernel, by decide +kernel⟩
theorem kitN : ∀ t ∈ ["int", "str", "NoneType", "bool"], kitB t "list" = some false ∧ kitB t "tuple" = some false ∧ kitB t "dict" = some false := by decide +kernel
theorem kitL : kitB "list" "list" = some true ∧ kitB "list" "tuple" = some false ∧ kitB "list" "dict" = some false := by decide +kernel
theorem kitU : kitB "tuple" "list" = some false ∧ kitB "tuple" "tuple" = some true ∧ kitB "tuple" "dict" = some false := by decide +kernel
theorem kitD : kitB "dict" "list" = some false ∧ kitB "dict" "tuple" = some false ∧ kitB "dict" "dict" = some true := by decide +kernel
theorem more_ok {n : Nat} {H : Hp} {a : Addr} {xs : List V} (h2 : xs.length ≤ n) (h3 : ∀ x ∈ xs, Sc x) : Lp (n + 1) (upd H a (.lst (xs ++ [.str "more"]))) a :=
  ⟨_, upd_same, by rw [List.length_append]; exact Nat.succ_le_succ h2, fun x hx => (List.mem_append.mp hx).elim (h3 x) fun z => by
    rw [List.mem_singleton.mp z]
    exact Sc.str (by decide) (by decide)⟩
theorem ok_grown (F : FnP K "_law_grown" sGrown f fd) (T : TG9 mg) : FnOk P w K mg base CX0 1 f fd ["_law_thing"] spGrown := by
  have nd := sc_grown.nd
  refine F.ok sc_grown (fun vs H Q E h => ?_) (fun cdv A outer s H vs Q E hr h => ?_)
  · obtain ⟨v, as, rfl, _⟩ := h
    rfl
  · obtain ⟨v, as, rfl, hv, q⟩ := h
    have hu := hu_of hr
    refine ⟨_, PSs.nox (pss_cons (ps_if (pt_val (pe_callB call_isi (by rfl) T.isi (by decide +kernel) (pa_cons (pv 0) (pa_cons (pe_bltn (by rfl) T.nLst (by decide +kernel) (v := .ty "list") rfl) pa_nil))))
        (pss_one (ps_expr (pe_bm PySem.F.plainAttrs_list PySem.F.slot_list_append PySem.F.type_list_append mt_append (pv 0) (pa_cons pe_str pa_nil)))) pss_nil)
      (pss_cons (ps_if (pw_and (pt_val (pe_callB call_isi (by rfl) T.isi (by decide +kernel) (pa_cons (pv 0) (pa_cons (pe_bltn (by rfl) T.nTup (by decide +kernel) (v := .ty "tuple") rfl) pa_nil))))
            (pw_and1 (pt_cmpR op_eq (pe_callB call_len_seq (by rfl) T.len boot_len (pa_cons (pv 0) pa_nil)) pe_int (nomark _)))).pt
          (pss_cons (ps_set (i := 1) nd rfl (.inl rfl) (pe_ix ix_tup (pv 0) pe_int (fun _ _ => rfl)))
            (pss_one (ps_expr (pe_bm PySem.F.plainAttrs_list PySem.F.slot_list_append PySem.F.type_list_append mt_append (pv 1) (pa_cons pe_str pa_nil))))) pss_nil)
        (pss_one (ps_if (pt_val (pe_callB call_isi (by rfl) T.isi (by decide +kernel) (pa_cons (pv 0) (pa_cons (pe_bltn (by rfl) T.nDic (by decide +kernel) (v := .ty "dict") rfl) pa_nil))))
          (pss_cons (ps_dput hu (pv 0) pe_str pe_int rfl) (pss_cons (ps_set (i := 1) nd rfl (.inl rfl) (pe_dget hu (pv 0) pe_str (fun _ _ => rfl)))
            (pss_one (ps_expr (pe_bm PySem.F.plainAttrs_list PySem.F.slot_list_append PySem.F.type_list_append mt_append (pv 1) (pa_cons pe_str pa_nil)))))) pss_nil)))), ?_⟩
    cases hv with
    | sc h =>
      obtain ⟨t, ht, hm⟩ := h.ty
      obtain ⟨k1, k2, k3⟩ := kitN t hm
      refine ⟨_, rfl, v, .ty "list", .type t, .type "list", false, rfl, .ty _, .base (ht _ _), kit_ty k1, _, rfl, iteF ?_⟩
      refine ⟨_, rfl, v, .ty "tuple", .type t, .type "tuple", false, rfl, .ty _, .base (ht _ _), kit_ty k2, _, rfl, iteF (iteF ?_)⟩
      refine ⟨_, rfl, v, .ty "dict", .type t, .type "dict", false, rfl, .ty _, .base (ht _ _), kit_ty k3, _, rfl, iteF ?_⟩
      exact q H (fun b o _ e => e) (.sc h)
    | @lst a h =>
      obtain ⟨xs, h1, h2, h3⟩ := h
      obtain ⟨k1, k2, k3⟩ := kitL
      refine ⟨_, rfl, .ref a, .ty "list", .type "list", .type "list", true, rfl, .ty _, .base (.lst h1), kit_ty k1, _, rfl, iteT ?_⟩
      refine ⟨_, rfl, .inl ⟨rfl, _, SqL.of h1⟩, a, xs, _, rfl, rfl, h1, ?_, ?_⟩
      · rw [sizeLine_eq]
        omega
      have hl := more_ok (H := H) (a := a) h2 h3
      have hl1 : (upd H a (.lst (xs ++ [.str "more"]))) a = some (.lst (xs ++ [.str "more"])) := upd_same
      have ho : Out [a] H (upd H a (.lst (xs ++ [.str "more"]))) := fun b o hb e => by
        rw [upd_ne fun z => hb (by simp [z])]
        exact e
      generalize upd H a (.lst (xs ++ [.str "more"])) = H1 at hl hl1 ho
      refine ⟨_, rfl, .ref a, .ty "tuple", .type "list", .type "tuple", false, rfl, .ty _, .base (.lst hl1), kit_ty k2, _, rfl, iteF (iteF ?_)⟩
      refine ⟨_, rfl, .ref a, .ty "dict", .type "list", .type "dict", false, rfl, .ty _, .base (.lst hl1), kit_ty k3, _, rfl, iteF ?_⟩
      exact q _ ho (.lst hl)
    | @tup a l x h hx hl =>
      obtain ⟨xs, h1, h2, h3⟩ := hl
      obtain ⟨k1, k2, k3⟩ := kitU
      refine ⟨_, rfl, .ref a, .ty "list", .type "tuple", .type "list", false, rfl, .ty _, .base (.tup h), kit_ty k1, _, rfl, iteF ?_⟩
      refine ⟨_, rfl, .ref a, .ty "tuple", .type "tuple", .type "tuple", true, rfl, .ty _, .base (.tup h), kit_ty k2, _, rfl, iteT ?_⟩
      refine ⟨_, rfl, a, _, rfl, .inr (SqT.of h), rfl, _, rfl, ite2 (fun _ => ?_) fun z => (z (by rfl)).elim⟩
      refine ⟨_, rfl, a, _, 1, _, rfl, rfl, SqT.of h, rfl, ?_⟩
      refine ⟨_, rfl, .inl ⟨rfl, _, SqL.of h1⟩, l, xs, _, rfl, rfl, h1, ?_, ?_⟩
      · rw [sizeLine_eq]
        omega
      have hl := more_ok (H := H) (a := l) h2 h3
      have hne : a ≠ l := ne_of h h1 (by intro z; cases z)
      have hl1 : (upd H l (.lst (xs ++ [.str "more"]))) a = some (.tup [x, .ref l]) := by
        rw [upd_ne hne]
        exact h
      have ho : Out [a, l] H (upd H l (.lst (xs ++ [.str "more"]))) := fun b o hb e => by
        rw [upd_ne fun z => hb (by simp [z])]
        exact e
      generalize upd H l (.lst (xs ++ [.str "more"])) = H1 at hl hl1 ho
      refine ⟨_, rfl, .ref a, .ty "dict", .type "tuple", .type "dict", false, rfl, .ty _, .base (.tup hl1), kit_ty k3, _, rfl, iteF ?_⟩
      exact q _ ho (.tup hl1 hx hl)
    | @dic a l r h hr' hl =>
      obtain ⟨xs, h1, h2, h3⟩ := hl
      obtain ⟨k1, k2, k3⟩ := kitD
      refine ⟨_, rfl, .ref a, .ty "list", .type "dict", .type "list", false, rfl, .ty _, .base (.dK h), kit_ty k1, _, rfl, iteF ?_⟩
      refine ⟨_, rfl, .ref a, .ty "tuple", .type "dict", .type "tuple", false, rfl, .ty _, .base (.dK h), kit_ty k2, _, rfl, iteF (iteF ?_)⟩
      refine ⟨_, rfl, .ref a, .ty "dict", .type "dict", .type "dict", true, rfl, .ty _, .base (.dK h), kit_ty k3, _, rfl, iteT ?_⟩
      have hp : putK ((.inr "a", .ref l) :: r) (.inr "more") (.int 7) = [(.inr "a", .ref l), (.inr "more", .int 7)] := by
        rcases hr' with rfl | rfl <;> rfl
      have hlen : ((.inr "a", V.ref l) :: r : List (Key × V)).length < sizeLine := by
        rcases hr' with rfl | rfl <;> (rw [sizeLine_eq]; simp)
      refine ⟨_, rfl, a, _, rfl, DPut.k (k := .inr "more") h hlen, ?_⟩
      rw [hp]
      have hne : a ≠ l := ne_of h h1 (by intro z; cases z)
      have g0 : (upd H a (.dK [(.inr "a", .ref l), (.inr "more", .int 7)])) a = some (.dK [(.inr "a", .ref l), (.inr "more", .int 7)]) := upd_same
      have g1 : (upd H a (.dK [(.inr "a", .ref l), (.inr "more", .int 7)])) l = some (.lst xs) := by
        rw [upd_ne (Ne.symm hne)]
        exact h1
      have go : Out [a, l] H (upd H a (.dK [(.inr "a", .ref l), (.inr "more", .int 7)])) := fun b o hb e => by
        rw [upd_ne fun z => hb (by simp [z])]
        exact e
      generalize upd H a (.dK [(.inr "a", .ref l), (.inr "more", .int 7)]) = H1 at g0 g1 go
      refine ⟨_, rfl, a, .ref l, rfl, DGet.k (k := .inr "a") g0, ?_⟩
      refine ⟨_, rfl, .inl ⟨rfl, _, SqL.of g1⟩, l, xs, _, rfl, rfl, g1, ?_, ?_⟩
      · rw [sizeLine_eq]
        omega
      have hl := more_ok (H := H1) (a := l) h2 h3
      refine q _ (fun b o hb e => ?_) (.dic (by rw [upd_ne hne]; exact g0) (.inr rfl) hl)
      rw [upd_ne fun z => hb (by simp [z])]
      exact go b o hb e
structure TV9 (P : Program) (w : World) (K : PySem.W.Frag) (mg : Str → Option Value) (base : Heap) : Prop where
  take : Df P w K mg base "_law_take" 1 ["_law_box_here", "_law_many"] spTake
  range : mg "range" = none
abbrev nValue : List Str := ["_law_box_here", "_law_number", "_law_text", "_law_some", "_law_k"]
theorem sc_value : FnScope nValue ["_law_box_here"] (defScope sValue) := ⟨rfl, rfl, rfl, by decide +kernel, rfl, by decide +kernel, by decide +kernel⟩
theorem But.trans {p : Addr} {H G J : Hp} (h : But p H G) (g : But p G J) : But p H J := fun b o hb e => g b o hb (h b o hb e)
theorem But.same {p : Addr} {H G J : Hp} (h : But p H G) (g : Same G J) : But p H J := fun b o hb e => g b o (h b o hb e)
theorem Box.same {p : Addr} {n : Int} {H G : Hp} (h : Box H p n) (g : Same H G) : Box G p n := by
  obtain ⟨a, b, c, e, r⟩ := h
  exact ⟨a, b, c, g _ _ e, r⟩
theorem Box.on {p : Addr} {n : Int} {H : Hp} (h : Box H p n) : H p ≠ none := by
  obtain ⟨a, b, c, e, r⟩ := h
  rw [e]
  exact fun z => nomatch z
theorem Th.but {n : Nat} {p : Addr} {H G : Hp} {v : V} {as : List Addr} (h : Th n H v as) (ha : ∀ a ∈ as, a ≠ p) (e : But p H G) : Th n G v as := by
  have lp : ∀ {l : Addr}, l ∈ as → Lp n H l → Lp n G l := fun hl ⟨xs, h1, h2⟩ => ⟨xs, e _ _ (ha _ hl) h1, h2⟩
  cases h with
  | sc h => exact .sc h
  | lst h => exact .lst (lp (by simp) h)
  | tup h hx hl => exact .tup (e _ _ (ha _ (by simp)) h) hx (lp (by simp) hl)
  | dic h hr hl => exact .dic (e _ _ (ha _ (by simp)) h) hr (lp (by simp) hl)
/-- a text of one sign -/
def One (y : Str) : Prop := y.length = 1 ∧ ∀ c ∈ y.cps.toList, c < 16 ^ 8
theorem one_sign : ∀ d : Nat, d < 11 → ∃ c, atI ("abc XYZ.'~0" : Str).cps.toList (d : Int) = some c ∧ One ⟨#[c]⟩ := by
  intro d hd
  have : ∀ d < 11, ∃ c, atI ("abc XYZ.'~0" : Str).cps.toList ((d : Nat) : Int) = some c ∧ c < 16 ^ 8 := by
    intro d hd
    match d, hd with
    | 0, _ => exact ⟨_, rfl, by decide⟩
    | 1, _ => exact ⟨_, rfl, by decide⟩
    | 2, _ => exact ⟨_, rfl, by decide⟩
    | 3, _ => exact ⟨_, rfl, by decide⟩
    | 4, _ => exact ⟨_, rfl, by decide⟩
    | 5, _ => exact ⟨_, rfl, by decide⟩
    | 6, _ => exact ⟨_, rfl, by decide⟩
    | 7, _ => exact ⟨_, rfl, by decide⟩
    | 8, _ => exact ⟨_, rfl, by decide⟩
    | 9, _ => exact ⟨_, rfl, by decide⟩
    | 10, _ => exact ⟨_, rfl, by decide⟩
  obtain ⟨c, h1, h2⟩ := this d hd
  exact ⟨c, h1, rfl, fun c' hc => by
    have e : c' = c := by simpa using hc
    rw [e]
    exact h2⟩
open TL in
theorem ones_join : ∀ {ys : List Str}, (∀ y ∈ ys, One y) → (joinL [] (ys.map tl)).length = ys.length ∧ ∀ c ∈ joinL [] (ys.map tl), c < 16 ^ 8
  | [], _ => ⟨rfl, fun c h => nomatch h⟩
  | [y], h => by
    obtain ⟨h1, h2⟩ := h y (by simp)
    exact ⟨(by show (tl y).length = 1; simpa [tl, Str.length] using h1), h2⟩
  | y :: z :: r, h => by
    obtain ⟨h1, h2⟩ := h y (by simp)
    obtain ⟨h3, h4⟩ := ones_join (ys := z :: r) fun x hx => h x (List.mem_cons_of_mem _ hx)
    have e1 : (tl y).length = 1 := by simpa [tl, Str.length] using h1
    have e : joinL [] ((y :: z :: r).map tl) = tl y ++ ([] ++ joinL [] ((z :: r).map tl)) := rfl
    rw [e, List.nil_append]
    refine ⟨?_, fun c hc => (List.mem_append.mp hc).elim (h2 c) (h4 c)⟩
    rw [List.length_append, h3, e1, List.length_cons]
    simp only [List.length_cons]
    omega
open TL in
theorem ones_sc {ys : List Str} (h : ∀ y ∈ ys, One y) (hl : ys.length ≤ 30) : Sc (.str (Txt.join "" ys)) := by
  have e : tl (Txt.join "" ys) = joinL [] (ys.map tl) := by
    rw [join_eq, tl_join]
    rfl
  obtain ⟨h1, h2⟩ := ones_join h
  rw [← e] at h1 h2
  exact Sc.str (by
    have e2 : (Txt.join "" ys).length = (tl (Txt.join "" ys)).length := by simp [tl, Str.length]
    omega) h2
theorem ones_sum : ∀ {ys : List Str}, (∀ y ∈ ys, One y) → (ys.map (·.length)).sum = ys.length
  | [], _ => rfl
  | y :: r, h => by
    rw [List.map_cons, List.sum_cons, ones_sum fun x hx => h x (List.mem_cons_of_mem _ hx), (h y (by simp)).1, List.length_cons]
    omega
theorem num_sc {i : Int} (h1 : -(2 ^ 190) < i) (h2 : i < 2 ^ 190) : Sc (.int i) := Sc.int (by
  by_cases h : i.natAbs = 0
  · rw [h]
    decide
  · exact Nat.lt_of_lt_of_le ((Nat.log2_lt h).mpr (by omega : i.natAbs < 2 ^ 190)) (by decide))
theorem ok_value (F : FnP K "_law_value" sValue f fd) (T : TV9 P w K mg base) : FnOk P w K mg base CX0 2 f fd ["_law_box_here"] spValue := by
  have nd := sc_value.nd
  refine F.ok sc_value (fun vs H Q E h => ?_) (fun cdv A outer s H vs Q E hr h => ?_)
  · obtain ⟨p, rfl, _⟩ := h
    rfl
  · obtain ⟨p, rfl, hb, q⟩ := h
    refine ⟨_, PSs.nox (pss_cons (ps_set (i := 1) nd rfl (.inl rfl) (pe_op op_add (pe_op op_mul (pe_D T.take hr rfl (pa_cons (pv 0) (pa_cons (pe_op op_pow pe_int pe_int) pa_nil))) (pe_op op_pow pe_int pe_int))
          (pe_D T.take hr rfl (pa_cons (pv 0) (pa_cons (pe_op op_pow pe_int pe_int) pa_nil)))))
      (pss_cons (ps_set (i := 2) nd rfl (.inl rfl) (pe_join pe_str (pe_lc (own := [("_law_k", 4)]) (g := gName 4) (tt := tYes) rfl nd (pi_range1 (by rfl) T.range (pa_cons (pe_D T.take hr rfl (pa_cons (pv 0) (pa_cons pe_int pa_nil))) pa_nil))
          (blkOk_by (N := nValue) (sc := defScope sValue) (by decide +kernel)) (fun _ _ _ _ _ => pg_name (i := 4) nd rfl (.inl rfl)) (fun _ _ _ _ _ => pts_nil)
          (fun _ _ _ _ _ => pe_ix ix_str pe_str (pe_D T.take hr rfl (pa_cons (pv 0) (pa_cons pe_int pa_nil))) (fun _ _ => rfl)))))
        (pss_cons (ps_set (i := 3) nd rfl (.inl rfl) (pe_lst (pa_cons (pv 1) (pa_cons (pe_op op_sub pe_int (pv 1)) (pa_cons (pv 2) (pa_cons pe_non (pa_cons pe_bl (pa_cons pe_bl (pa_cons (pe_lst (pa_cons (pv 1) (pa_cons (pv 2) pa_nil)))
            (pa_cons (pe_tup (pa_cons (pv 2) (pa_cons (pe_lst (pa_cons (pv 1) pa_nil)) pa_nil))) (pa_cons (pe_disp (pps_cons pe_str (pe_lst (pa_cons (pv 2) pa_nil)) pps_nil) rfl rfl (by intro z; cases z) (by decide))
              (pa_cons (pe_lst pa_nil) pa_nil))))))))))))
          (pss_one (ps_ret (pe_ix ix_list (pe_op op_cat (pv 3) (pe_lst (pa_cons (pe_tup (pa_cons (pv 2) (pa_cons (pe_lst pa_nil) pa_nil))) pa_nil))) (pe_D T.take hr rfl (pa_cons (pv 0) (pa_cons pe_int pa_nil))) (fun _ _ => rfl))))))), ?_⟩
    have c8 : (10 : Int) ^ (8 : Int).toNat = 100000000 := by decide +kernel
    have c21 : (10 : Int) ^ (21 : Int).toNat = 1000000000000000000000 := by decide +kernel
    refine ⟨_, rfl, _, _, rfl, rfl, ⟨by decide, by decide, by decide⟩, p, _, 0, rfl, hb, by decide, by decide +kernel, by decide +kernel, fun d1 H1 a1 b1 u1 x1 => ?_⟩
    refine ⟨_, _, rfl, rfl, ⟨by decide, by decide, by decide⟩, _, _, rfl, rfl, .inl ⟨?_, ?_⟩, ?_⟩
    · rw [c8] at b1
      omega
    · rw [c8] at b1
      omega
    refine ⟨_, rfl, _, _, rfl, rfl, ⟨by decide, by decide, by decide⟩, p, _, 0 + 1, rfl, x1, by decide, by decide +kernel, by decide +kernel, fun d2 H2 a2 b2 u2 x2 => ?_⟩
    refine ⟨_, _, rfl, rfl, ?_⟩
    rw [c8] at b1 b2
    rw [c21]
    show gName 1 (V.int (d1 * 1000000000000000000000 + d2)) _ _ _
    have hSN : Sc (.int (d1 * 1000000000000000000000 + d2)) := num_sc (by omega) (by omega)
    have hSM : Sc (.int (0 - (d1 * 1000000000000000000000 + d2))) := num_sc (by omega) (by omega)
    generalize d1 * 1000000000000000000000 + d2 = N at hSN hSM
    refine ⟨⟨_, rfl⟩, ?_⟩
    refine ⟨_, rfl, p, _, 0 + 1 + 1, rfl, x2, by decide, by decide, by decide, fun d3 H3 a3 b3 u3 x3 => ⟨_, rfl, by omega, by omega, fun D hD => ?_⟩⟩
    have hDp : D ≠ p := fun z => by
      rw [z] at hD
      exact x3.on hD
    refine lc_range (fun i G => ∃ ys : List Str, ys.length = i ∧ (∀ y ∈ ys, One y) ∧ G D = some (.lst (ys.map V.str)) ∧ But p H3 G ∧ ∃ n : Int, n ≤ 3 + i ∧ Box G p n) ?_ ?_ ?_
    · exact ⟨[], rfl, (fun y hy => nomatch hy), upd_same, fun b o hb e => by rw [upd_ne (ne_of_none e hD)]; exact e, 0 + 1 + 1 + 1, by omega, x3.same (new_same hD)⟩
    · rintro i G hi ⟨ys, hl, h1, hD', hb', n, hn, hx⟩
      refine ⟨rfl, ?_⟩
      refine ⟨_, rfl, p, _, n, rfl, hx, by omega, by decide, by decide, fun d G2 da db du dx => ?_⟩
      obtain ⟨c, hc, ho⟩ := one_sign d.toNat (by omega)
      rw [Int.toNat_of_nonneg da] at hc
      refine ⟨_, d, c, rfl, rfl, by rw [sizeLine_eq]; decide, hc, ys.map V.str, du _ _ hDp hD', by rw [List.length_map, hl, sizeLine_eq]; omega, ys ++ [⟨#[c]⟩], by rw [List.length_append, hl]; rfl, fun y hy => ?_, ?_, fun b o hb e => ?_, n + 1, by omega, ?_⟩
      · rcases List.mem_append.mp hy with z | z
        · exact h1 y z
        · rw [List.mem_singleton.mp z]
          exact ho
      · rw [List.map_append]
        exact upd_same
      · rw [upd_ne (ne_of_none e hD)]
        exact du b o hb (hb' b o hb e)
      · obtain ⟨a, b, c', e, r⟩ := dx
        exact ⟨a, b, c', by rw [upd_ne (Ne.symm hDp)]; exact e, r⟩
    rintro G ⟨ys, hl, h1, hD', hb', n, hn, hx⟩
    refine ⟨_, D, ys, rfl, rfl, .inl (SqL.of hD'), ?_, ?_⟩
    · rw [ones_sum h1]
      have e : ("" : Str).length = 0 := rfl
      rw [e]
      omega
    have hSX : Sc (.str (Txt.join "" ys)) := ones_sc h1 (by omega)
    generalize Txt.join "" ys = X at hSX
    have bG : But p H G := ((u1.trans u2).trans u3).trans hb'
    have hpG : G p ≠ none := hx.on
    have hn30 : n ≤ 30 := by omega
    clear hb' u1 u2 u3 x1 x2 x3 hD hD' h1 hn
    refine ⟨_, rfl, _, rfl, _, _, rfl, rfl, _, rfl, _, rfl, _, rfl, (by show 2 ≤ sizeLine; decide), fun q1 h1 => ?_⟩
    have s1 : Same G (upd G q1 (.lst [.int N, .str X])) := new_same h1
    have l1 : (upd G q1 (.lst [.int N, .str X])) q1 = some (.lst [.int N, .str X]) := upd_same
    generalize upd G q1 (.lst [.int N, .str X]) = G1 at s1 l1
    refine ⟨_, rfl, _, rfl, (by show 1 ≤ sizeLine; decide), fun q2 h2 => ⟨(by show 2 ≤ sizeLine; decide), fun q3 h3 => ?_⟩⟩
    have s2 : Same G1 (upd G1 q2 (.lst [.int N])) := new_same h2
    have l2 : (upd G1 q2 (.lst [.int N])) q2 = some (.lst [.int N]) := upd_same
    have g2 : G q2 = none := none_back s1 h2
    generalize upd G1 q2 (.lst [.int N]) = G2 at s2 l2 h3
    have s3 : Same G2 (upd G2 q3 (.tup [.str X, .ref q2])) := new_same h3
    have l3 : (upd G2 q3 (.tup [.str X, .ref q2])) q3 = some (.tup [.str X, .ref q2]) := upd_same
    have S2 : Same G G2 := s1.trans s2
    have g3 : G q3 = none := none_back S2 h3
    generalize upd G2 q3 (.tup [.str X, .ref q2]) = G3 at s3 l3
    have S3 : Same G G3 := S2.trans s3
    refine fun q4 h4 => ⟨_, rfl, (by show 1 ≤ sizeLine; decide), fun q5 h5 => ?_⟩
    have s4 : Same G3 (upd G3 q4 (.dK [])) := new_same h4
    have l4 : (upd G3 q4 (.dK [])) q4 = some (.dK []) := upd_same
    have g4 : G q4 = none := none_back S3 h4
    generalize upd G3 q4 (.dK []) = G4 at s4 l4 h5
    have S4 : Same G G4 := S3.trans s4
    have s5 : Same G4 (upd G4 q5 (.lst [.str X])) := new_same h5
    have l5 : (upd G4 q5 (.lst [.str X])) q5 = some (.lst [.str X]) := upd_same
    have g5 : G q5 = none := none_back S4 h5
    have n45 : q5 ≠ q4 := fun z => by
      rw [z, l4] at h5
      cases h5
    generalize upd G4 q5 (.lst [.str X]) = G5 at s5 l5
    have S5 : Same G3 G5 := s4.trans s5
    have l45 := s5 _ _ l4
    refine ⟨l45, [(.inr "a", .ref q5)], rfl, (by show 1 ≤ 15; decide), ?_⟩
    have em : mergeK [] [((.inr "a" : Key), V.ref q5)] = [(.inr "a", .ref q5)] := rfl
    rw [em]
    have s6 : Same G3 (upd G5 q4 (.dK [(.inr "a", .ref q5)])) := fun b o e => by
      rw [upd_ne (ne_of_none e h4)]
      exact S5 b o e
    have l6 : (upd G5 q4 (.dK [(.inr "a", .ref q5)])) q4 = some (.dK [(.inr "a", .ref q5)]) := upd_same
    have l65 : (upd G5 q4 (.dK [(.inr "a", .ref q5)])) q5 = some (.lst [.str X]) := by
      rw [upd_ne n45]
      exact l5
    generalize upd G5 q4 (.dK [(.inr "a", .ref q5)]) = G6 at s6 l6 l65
    have S6 : Same G G6 := S3.trans s6
    refine ⟨(by show 0 ≤ sizeLine; decide), fun q6 h6 => ⟨(by show 10 ≤ sizeLine; decide), fun q7 h7 => ?_⟩⟩
    dsimp only
    have s7 : Same G6 (upd G6 q6 (.lst [])) := new_same h6
    have l7 : (upd G6 q6 (.lst [])) q6 = some (.lst []) := upd_same
    have g6 : G q6 = none := none_back S6 h6
    generalize upd G6 q6 (.lst []) = G7 at s7 l7 h7
    have s8 : Same G7 (upd G7 q7 (.lst [.int N, .int (0 - N), .str X, .non, .bl true, .bl false, .ref q1, .ref q3, .ref q4, .ref q6])) := new_same h7
    have l8 : (upd G7 q7 (.lst [.int N, .int (0 - N), .str X, .non, .bl true, .bl false, .ref q1, .ref q3, .ref q4, .ref q6])) q7 = some (.lst [.int N, .int (0 - N), .str X, .non, .bl true, .bl false, .ref q1, .ref q3, .ref q4, .ref q6]) := upd_same
    generalize upd G7 q7 (.lst [.int N, .int (0 - N), .str X, .non, .bl true, .bl false, .ref q1, .ref q3, .ref q4, .ref q6]) = G8 at s8 l8
    have S8 : Same G6 G8 := s7.trans s8
    have T8 : Same G G8 := S6.trans S8
    refine ⟨_, rfl, _, rfl, (by show 0 ≤ sizeLine; decide), fun q8 h8 => ⟨(by show 2 ≤ sizeLine; decide), fun q9 h9 => ⟨(by show 1 ≤ sizeLine; decide), fun q10 h10 => ?_⟩⟩⟩
    have s9 : Same G8 (upd G8 q8 (.lst [])) := new_same h8
    have l9 : (upd G8 q8 (.lst [])) q8 = some (.lst []) := upd_same
    have g8 : G q8 = none := none_back T8 h8
    generalize upd G8 q8 (.lst []) = G9 at s9 l9 h9 h10
    have s10 : Same G9 (upd G9 q9 (.tup [.str X, .ref q8])) := new_same h9
    have l10 : (upd G9 q9 (.tup [.str X, .ref q8])) q9 = some (.tup [.str X, .ref q8]) := upd_same
    have g9 : G q9 = none := none_back (T8.trans s9) h9
    generalize upd G9 q9 (.tup [.str X, .ref q8]) = G10 at s10 l10 h10
    have s11 : Same G10 (upd G10 q10 (.lst [.ref q9])) := new_same h10
    have l11 : (upd G10 q10 (.lst [.ref q9])) q10 = some (.lst [.ref q9]) := upd_same
    generalize upd G10 q10 (.lst [.ref q9]) = G11 at s11 l11
    have S11 : Same G8 G11 := (s9.trans s10).trans s11
    refine ⟨q7, q10, _, _, rfl, rfl, S11 _ _ l8, l11, (by show 10 + 1 ≤ sizeLine; decide), fun q11 h11 => ?_⟩
    have s12 : Same G11 (upd G11 q11 (.lst ([.int N, .int (0 - N), .str X, .non, .bl true, .bl false, .ref q1, .ref q3, .ref q4, .ref q6] ++ [.ref q9]))) := new_same h11
    have l12 : (upd G11 q11 (.lst ([.int N, .int (0 - N), .str X, .non, .bl true, .bl false, .ref q1, .ref q3, .ref q4, .ref q6] ++ [.ref q9]))) q11 = some (.lst [.int N, .int (0 - N), .str X, .non, .bl true, .bl false, .ref q1, .ref q3, .ref q4, .ref q6, .ref q9]) := upd_same
    generalize upd G11 q11 (.lst ([.int N, .int (0 - N), .str X, .non, .bl true, .bl false, .ref q1, .ref q3, .ref q4, .ref q6] ++ [.ref q9])) = G12 at s12 l12
    have S12 : Same G8 G12 := S11.trans s12
    have T12 : Same G G12 := T8.trans S12
    have g11 : G q11 = none := none_back (T8.trans S11) h11
    have np : ∀ {a : Addr}, G a = none → a ≠ p := fun e z => hpG (by rw [← z]; exact e)
    refine ⟨_, rfl, p, _, n, rfl, hx.same T12, by omega, by decide, by decide, fun d J da db du dx => ?_⟩
    have fin := bG.trans (But.trans (fun b o _ e => T12 b o e) du)
    have back : ∀ {a : Addr}, G a = none → H a = none := fun {a} e => by
      cases z : H a with
      | none => rfl
      | some o =>
        rw [bG a o (np e) z] at e
        cases e
    have ok : ∀ {v : V} {as : List Addr}, (∀ a ∈ as, G a = none) → Th 2 G12 v as → Q v J := fun ha h => q _ _ _ fin (fun a hm => back (ha a hm)) (h.but (fun a hm => np (ha a hm)) du)
    have at_ : ∀ (j : Nat) (v : V), d = (j : Int) → ([.int N, .int (0 - N), .str X, .non, .bl true, .bl false, .ref q1, .ref q3, .ref q4, .ref q6, .ref q9] : List V)[j]? = some v → (∃ as, (∀ a ∈ as, G a = none) ∧ Th 2 G12 v as) →
        ∃ p_1 xs i z, V.ref q11 = V.ref p_1 ∧ V.int d = V.int i ∧ SqL K J p_1 xs ∧ atI xs i = some z ∧ Q z J := fun j v e hj ⟨as, ha, ht⟩ =>
      ⟨q11, _, d, v, rfl, rfl, SqL.of (du _ _ (np g11) l12), at_of e hj, ok ha ht⟩
    have lp : ∀ {a : Addr} {xs : List V}, G12 a = some (.lst xs) → xs.length ≤ 2 → (∀ x ∈ xs, Sc x) → Lp 2 G12 a := fun h1 h2 h3 => ⟨_, h1, h2, h3⟩
    have S6b : Same G6 G12 := S8.trans S12
    have S3b : Same G3 G12 := s6.trans S6b
    have t1 := lp (S3b _ _ (s3 _ _ (s2 _ _ l1))) (Nat.le_refl _) (by
      intro x hx
      rcases List.mem_cons.mp hx with z | z
      · rw [z]; exact hSN
      · rw [List.mem_singleton.mp z]; exact hSX)
    have t2 := lp (S3b _ _ (s3 _ _ l2)) (by show 1 ≤ 2; decide) (by
      intro x hx
      rw [List.mem_singleton.mp hx]; exact hSN)
    have t5 := lp (S6b _ _ l65) (by show 1 ≤ 2; decide) (by
      intro x hx
      rw [List.mem_singleton.mp hx]; exact hSX)
    have t6 := lp (S12 _ _ (s8 _ _ l7)) (by decide) (fun x hx => nomatch hx)
    have t8 := lp (s12 _ _ (s11 _ _ (s10 _ _ l9))) (by decide) (fun x hx => nomatch hx)
    have sc : ∀ {v : V}, Sc v → ∃ as, (∀ a ∈ as, G a = none) ∧ Th 2 G12 v as := fun h => ⟨[], fun a ha => (nomatch ha), .sc h⟩
    have one : ∀ {a : Addr}, G a = none → ∀ b ∈ [a], G b = none := fun h b hb => by
      rw [List.mem_singleton.mp hb]
      exact h
    have two : ∀ {a c : Addr}, G a = none → G c = none → ∀ b ∈ [a, c], G b = none := fun h h' b hb => by
      rcases List.mem_cons.mp hb with z | z
      · rw [z]; exact h
      · rw [List.mem_singleton.mp z]; exact h'
    have hd : d = (0 : Nat) ∨ d = (1 : Nat) ∨ d = (2 : Nat) ∨ d = (3 : Nat) ∨ d = (4 : Nat) ∨ d = (5 : Nat) ∨ d = (6 : Nat) ∨ d = (7 : Nat) ∨ d = (8 : Nat) ∨ d = (9 : Nat) ∨ d = (10 : Nat) := by omega
    rcases hd with z | z | z | z | z | z | z | z | z | z | z
    · exact at_ 0 _ z rfl (sc hSN)
    · exact at_ 1 _ z rfl (sc hSM)
    · exact at_ 2 _ z rfl (sc hSX)
    · exact at_ 3 _ z rfl (sc .non)
    · exact at_ 4 _ z rfl (sc (.bl _))
    · exact at_ 5 _ z rfl (sc (.bl _))
    · exact at_ 6 _ z rfl ⟨_, one h1, .lst t1⟩
    · exact at_ 7 _ z rfl ⟨_, two g3 g2, .tup (S3b _ _ l3) hSX t2⟩
    · exact at_ 8 _ z rfl ⟨_, two g4 g5, .dic (S6b _ _ l6) (.inl rfl) t5⟩
    · exact at_ 9 _ z rfl ⟨_, one g6, .lst t6⟩
    · exact at_ 10 _ z rfl ⟨_, two g9 g8, .tup (s12 _ _ (s11 _ _ l10)) hSX t8⟩
end
end K1
/-! law k01: raised and caught -/
namespace K1
open PySem PySem.Spec PyProof.Rows L2 EX He XH RP
/-- the exceptions that the law raises -/
def five : List Str := ["Unordered", "NotReady", "InvalidLine", "MapError", "StateError"]
/-- the clause that takes it, its class -/
def tellOf (t : Int) : Int × Str := if t = 0 then (0, "Unordered") else if t = 1 then (1, "NotReady") else if t = 2 then (0, "InvalidLine") else if t = 3 then (0, "MapError") else (1, "StateError")
def spBU (K : PySem.W.Frag) (p : Addr × Obj) (x : Str) (d : Option Addr) : Sp := fun vs H Q _ => vs = [.ref p.1] ∧ DOk H d ∧ ∀ (q : Addr) (H' : Hp), Same H H' → H' q = some (.lst (basesOf x)) → Q (.ref q) H'
def spBX (K : PySem.W.Frag) (a : Addr) (cls : Value) (d : Option Addr) : Sp := fun vs H Q _ => vs = [.ref a] ∧ ∃ x : Str, x ∈ all25 ∧ cls = .ref (ga K x) ∧ DOk H d ∧ ∀ (q : Addr) (H' : Hp), Same H H' → H' q = some (.lst (basesOf x)) → Q (.ref q) H'
def tBk (K : PySem.W.Frag) (k : Int) : Addr → Value → Option Addr → TS := fun a cls d => tRet (tLst (tCons (tC (.int k)) (tCons (tCall (spBX K a cls d) [] (fun _ _ _ => False) (tCons (tVar 2) tNil)) tNil)))
def spCaught (K : PySem.W.Frag) : Sp := fun vs H Q _ => ∃ (t : Int) (v : V), vs = [.int t, v] ∧ ∀ (r q : Addr) (H' : Hp), Same H H' → H' r = some (.lst [.int (tellOf t).1, .ref q]) → H' q = some (.lst (basesOf (tellOf t).2)) → Q (.ref r) H'
structure TC9 (P : Program) (w : World) (K : PySem.W.Frag) (mg : Str → Option Value) (base : Heap) : Prop where
  bs : ∃ f fd, (∀ (p : Addr × Obj) (x : Str) (d : Option Addr), x ∈ all25 → Zc (.ref (ga K x)) d p.2 → (∃ vs, p.2.data = .fields vs) → FnU P w K mg base CX0 1 f fd ["_law_e"] p (spBU K p x d)) ∧ mg "_law_bases" = some (.ref f) ∧ PySem.W.keepIn K (.ref f) = true ∧ Binds K fd ["_law_e"] []
  glo : ∀ {x : Str}, x ∈ all25 → mg x = some (.ref (ga K x))
  exM : PySem.W.excIn K (ga K "MapError") veB "ValueError.__new__" = true
  exS : PySem.W.excIn K (ga K "StateError") leB "LookupError.__new__" = true
  kpM : PySem.W.keepIn K (.ref (ga K "MapError")) = true
  kpS : PySem.W.keepIn K (.ref (ga K "StateError")) = true
  exm : ∀ {x y : Str}, x ∈ five → y ∈ (["MapError", "StateError"] : List Str) → PySem.W.exmOne K (.ref (ga K x)) (.ref (ga K y)) = some (subF x y)
  sbc : ∀ {x : Str}, x ∈ five → PySem.W.subIn K (.ref (ga K x)) (.type "BaseException") = some true
  tyc : ∀ {x : Str}, x ∈ five → PySem.W.typeIn K (.ref (ga K x)) = some (.type "type")
section
variable {P : Program} {w : World} {K : PySem.W.Frag} {mg : Str → Option Value} {base : Heap} {f : Addr} {fd : FuncData}
theorem ok_basesU {p : Addr × Obj} {x : Str} {d : Option Addr} (F : FnP K "_law_bases" sBases f fd) (T : TK K mg) (hx : x ∈ all25) (hz : Zc (.ref (ga K x)) d p.2) (hf : ∃ vs, p.2.data = .fields vs) : FnU P w K mg base CX0 1 f fd ["_law_e"] p (spBU K p x d) := by
  have ec := T.ec hx
  refine fnU_of F sc_bases (fun vs H Q E h => ?_) (fun cdv A outer s H vs Q E hr h => ?_)
  · obtain ⟨rfl, _⟩ := h
    rfl
  · obtain ⟨rfl, dk, q⟩ := h
    refine ⟨_, PSs.nox (pss_one (ps_ret (pe_lst (pa_cons (pe_callB (call_isp (List.mem_singleton.mpr rfl) hz hf ec) (by rfl) T.isi (by decide +kernel) (pa_cons (pv 0) (pa_cons (pe_glob (v := .ref (ga K "MapError")) (by rfl) (T.glo (x := "MapError") (by decide +kernel)) rfl) pa_nil))) (pa_cons (pe_callB (call_isp (List.mem_singleton.mpr rfl) hz hf ec) (by rfl) T.isi (by decide +kernel) (pa_cons (pv 0) (pa_cons (pe_glob (v := .ref (ga K "StateError")) (by rfl) (T.glo (x := "StateError") (by decide +kernel)) rfl) pa_nil))) (pa_cons (pe_callB (call_isp (List.mem_singleton.mpr rfl) hz hf ec) (by rfl) T.isi (by decide +kernel) (pa_cons (pv 0) (pa_cons (pe_bltn (by rfl) T.nV (by decide +kernel) (v := .ty "ValueError") rfl) pa_nil))) (pa_cons (pe_callB (call_isp (List.mem_singleton.mpr rfl) hz hf ec) (by rfl) T.isi (by decide +kernel) (pa_cons (pv 0) (pa_cons (pe_bltn (by rfl) T.nL (by decide +kernel) (v := .ty "LookupError") rfl) pa_nil))) pa_nil))))))), ?_⟩
    refine ⟨_, rfl, .ref (ga K "MapError"), _, subF x "MapError", rfl, dk, rfl, T.kit hx (by decide +kernel), ⟨_, rfl, .ref (ga K "StateError"), _, subF x "StateError", rfl, dk, rfl, T.kit hx (by decide +kernel), ⟨_, rfl, .ty "ValueError", _, subT x "ValueError", rfl, dk, rfl, T.kty hx (by decide +kernel), ⟨_, rfl, .ty "LookupError", _, subT x "LookupError", rfl, dk, rfl, T.kty hx (by decide +kernel), ⟨(by show 4 ≤ sizeLine; decide), fun r hr => q r _ (new_same hr) upd_same⟩⟩⟩⟩⟩
theorem pe_bx {X : Cx} {a : Addr} {oe : Obj} {cls : Value} {d : Option Addr} {e : Expr} {te : TE} {q pos : Pos} (T : TC9 X.prog X.w X.K X.mg X.base) (hz : Zc cls d oe) (hf : ∃ vs, oe.data = .fields vs) (room : L2H.RoomH 1 X.A) (hp : (a, oe) ∈ X.pn) (hg : Gl X "_law_bases") (he : PE X e te) (ht : starEach [e] X.env = (false, eval e X.env) :: starEach [] X.env := by rfl) (hpl : (backTo pos (starEach [] X.env)).any (·.1) = false := by rfl) :
    PE X (.Call (.Name "_law_bases" q) [e] [] pos) (tCall (spBX X.K a cls d) [] (fun _ _ _ => False) (tCons te tNil)) := by
  obtain ⟨f, fd, h1, h2, h3, h4⟩ := T.bs
  refine pe_callU (p := (a, oe)) (fun vs H Q h => ?_) room hp hg h2 h3 h4 pass0 (pa_cons he pa_nil ht) (by decide) ht hpl
  obtain ⟨e1, x, hx, rfl, dk, z⟩ := h
  exact ⟨_, h1 (a, oe) x d hx hz hf, e1, dk, z⟩
theorem pe_XK {X : Cx} {x : Str} {n : Nat} {ks : List Str} {g : List V → List (Str × V)} {p pos : Pos} {e : Expr} {es : List Expr} {ta : TA} (K : PySem.W.Frag) (hK : X.K = K) (M : XM X.prog X.w X.K X.mg X.base x n ks g) (hn : n ≤ 1000) (hr : Room 2 X.A) (hg : Gl X x) (ha : PA X (e :: es) ta) (hdb : (x == ("__debug__" : Str)) = false := by decide)
    (he : starEach (e :: es) X.env = (false, eval e X.env) :: starEach es X.env := by rfl) (hpl : (backTo pos (starEach es X.env)).any (·.1) = false := by rfl) : PE X (.Call (.Name x p) (e :: es) [] pos) (tMkX (ga K x) n g ta) := by
  subst hK
  exact pe_X M hn hr hg ha hdb he hpl
theorem sc_caught : FnScope ["_law_turn", "_law_thing", "_law_e"] ["_law_turn", "_law_thing"] (defScope sCaught) := ⟨rfl, rfl, rfl, by decide +kernel, rfl, by decide +kernel, by decide +kernel⟩
theorem ok_caught (F : FnP K "_law_caught" sCaught f fd) (M : TX P w K mg base) (T : TC9 P w K mg base) : FnOk P w K mg base CX0 3 f fd ["_law_turn", "_law_thing"] (spCaught K) := by
  have nd := sc_caught.nd
  refine F.ok sc_caught (fun vs H Q E h => ?_) (fun cdv A outer s H vs Q E hr h => ?_)
  · obtain ⟨t, v, rfl, _⟩ := h
    rfl
  · obtain ⟨t, v, rfl, q⟩ := h
    refine ⟨_, PSs.nox (pss_one (ps_try_named (i := 2) rfl rfl nd rfl rfl takes0 (fun W pn xe tk _ =>
        (pss_cons (ps_if (pt_cmpR op_eq (pv 0) pe_int (nomark _)) (pss_one (ps_raiseX K H rfl rfl rfl rfl tk (pe_XK K rfl M.m18 (by decide) hr (by rfl) (pa_cons (pv 1) (pa_cons (pv 1) pa_nil))))) pss_nil)
          (pss_cons (ps_if (pt_cmpR op_eq (pv 0) pe_int (nomark _)) (pss_one (ps_raiseX K H rfl rfl rfl rfl tk (pe_XK K rfl M.m19 (by decide) hr (by rfl) (pa_cons (pv 1) pa_nil)))) pss_nil)
            (pss_cons (ps_if (pt_cmpR op_eq (pv 0) pe_int (nomark _)) (pss_one (ps_raiseX K H rfl rfl rfl rfl tk (pe_XK K rfl M.m16 (by decide) hr (by rfl) (pa_cons (pv 1) pa_nil)))) pss_nil)
              (pss_cons (ps_if (pt_cmpR op_eq (pv 0) pe_int (nomark _)) (pss_one (ps_raise rfl tk (pmk_own PySem.F.excBase_ValueError T.exM (T.glo (x := "MapError") (by decide +kernel)) T.kpM (raises_own (T.sbc (by decide +kernel)) (T.tyc (by decide +kernel))) (by rfl)))) pss_nil)
                (pss_one (ps_raise rfl tk (pmk_own PySem.F.excBase_LookupError T.exS (T.glo (x := "StateError") (by decide +kernel)) T.kpS (raises_own (T.sbc (by decide +kernel)) (T.tyc (by decide +kernel))) (by rfl)))))))))
      (.cons (ts := tBk K 0) ⟨rfl, by decide, .inl (T.glo (x := "MapError") (by decide +kernel))⟩ (fun a oe cls d pn hz hf => pss_one (ps_ret (pe_lst (pa_cons pe_int (pa_cons (pe_bx T hz hf (by exact ⟨(hr.mono (by decide : 1 ≤ 2)).dp, (hr.mono (by decide : 1 ≤ 2)).un⟩) (by exact List.mem_cons_self) (by rfl) (pv 2)) pa_nil)))))
        (.cons (ts := tBk K 1) ⟨rfl, by decide, .inl (T.glo (x := "StateError") (by decide +kernel))⟩ (fun a oe cls d pn hz hf => pss_one (ps_ret (pe_lst (pa_cons pe_int (pa_cons (pe_bx T hz hf (by exact ⟨(hr.mono (by decide : 1 ≤ 2)).dp, (hr.mono (by decide : 1 ≤ 2)).un⟩) (by exact List.mem_cons_self) (by rfl) (pv 2)) pa_nil))))) .nil)))), ?_⟩
    have drop : ∀ {a : Addr} {H2 : Hp}, H a = none → Same H H2 → Same H (delH H2 a) := fun n2 s2 b o e => by
      rw [delH_ne (ne_of_none e n2)]
      exact s2 b o e
    have fin : ∀ {k : Int} {x : Str} {G : Hp} {d : Option Addr} (b : Addr), tellOf t = (k, x) → x ∈ all25 → Same H G → DOk G d → tBk K k b (.ref (ga K x)) d (Ends.gone { nx := fun _ H' => Q .non H', rt := Q } 2) ([some (.int t), some v, some (.ref b)]) G := by
      intro k x G d b tell hx sm dk
      refine ⟨_, rfl, rfl, x, hx, rfl, dk, fun c G2 s2 l2 => ⟨(by show 2 ≤ sizeLine; decide), fun r hr' => ?_⟩⟩
      refine q r c _ (sm.trans (s2.trans (new_same hr'))) ?_ ?_
      · rw [tell]
        exact upd_same
      · rw [tell]
        exact new_same hr' _ _ l2
    have take1 : ∀ {x : Str}, x ∈ five → subF x "MapError" = true → PySem.W.exmOne K (.ref (ga K x)) (.ref (ga K "MapError")) = some true := fun hx e => (T.exm hx (by decide +kernel)).trans (congrArg some e)
    have pass1 : ∀ {x : Str}, x ∈ five → subF x "MapError" = false → PySem.W.exmOne K (.ref (ga K x)) (.ref (ga K "MapError")) = some false := fun hx e => (T.exm hx (by decide +kernel)).trans (congrArg some e)
    have take2 : ∀ {x : Str}, x ∈ five → subF x "StateError" = true → PySem.W.exmOne K (.ref (ga K x)) (.ref (ga K "StateError")) = some true := fun hx e => (T.exm hx (by decide +kernel)).trans (congrArg some e)
    have got : ∀ {k : Int}, decide (V.int t = V.int k) = true → t = k := fun h => V.int.inj (of_decide_eq_true h)
    have not : ∀ {k : Int}, ¬ decide (V.int t = V.int k) = true → t ≠ k := fun h z => h (decide_eq_true (by rw [z]))
    refine ⟨_, rfl, rfl, _, rfl, ite2 (fun h => ?_) fun g0 => ?_⟩
    · refine ⟨_, rfl, _, rfl, rfl, fun a H2 n2 s2 x2 => ⟨a, _, _, rfl, x2, fr0_none n2, ⟨T.sbc (x := "Unordered") (by decide +kernel), T.tyc (by decide +kernel)⟩, fun d dk => ?_⟩⟩
      exact ⟨true, take1 (by decide +kernel) (by decide +kernel), fun _ b _ => fin b (if_pos (got h)) (by decide +kernel) (drop n2 s2) dk, fun z => nomatch z⟩
    refine ⟨_, rfl, rfl, _, rfl, ite2 (fun h => ?_) fun g1 => ?_⟩
    · refine ⟨_, rfl, rfl, fun a H2 n2 s2 x2 => ⟨a, _, _, rfl, x2, fr0_none n2, ⟨T.sbc (x := "NotReady") (by decide +kernel), T.tyc (by decide +kernel)⟩, fun d dk => ?_⟩⟩
      refine ⟨false, pass1 (by decide +kernel) (by decide +kernel), (fun z => nomatch z), fun _ => ⟨true, take2 (by decide +kernel) (by decide +kernel), fun _ b _ => fin b ?_ (by decide +kernel) (drop n2 s2) dk, fun z => nomatch z⟩⟩
      rw [got h]
      rfl
    refine ⟨_, rfl, rfl, _, rfl, ite2 (fun h => ?_) fun g2 => ?_⟩
    · refine ⟨_, rfl, rfl, fun a H2 n2 s2 x2 => ⟨a, _, _, rfl, x2, fr0_none n2, ⟨T.sbc (x := "InvalidLine") (by decide +kernel), T.tyc (by decide +kernel)⟩, fun d dk => ?_⟩⟩
      refine ⟨true, take1 (by decide +kernel) (by decide +kernel), (fun _ b _ => fin b ?_ (by decide +kernel) (drop n2 s2) dk), fun z => nomatch z⟩
      rw [got h]
      rfl
    refine ⟨_, rfl, rfl, _, rfl, ite2 (fun h => ?_) fun g3 => ?_⟩
    · refine ⟨true, take1 (x := "MapError") (by decide +kernel) (by decide +kernel), (fun _ b _ => fin b ?_ (by decide +kernel) (Same.refl H) (.inl rfl)), fun z => nomatch z⟩
      rw [got h]
      rfl
    refine ⟨false, pass1 (x := "StateError") (by decide +kernel) (by decide +kernel), (fun z => nomatch z), fun _ => ⟨true, take2 (by decide +kernel) (by decide +kernel), (fun _ b _ => fin b ?_ (by decide +kernel) (Same.refl H) (.inl rfl)), fun z => nomatch z⟩⟩
    unfold tellOf
    rw [if_neg (not g0), if_neg (not g1), if_neg (not g2), if_neg (not g3)]
end
end K1
/-! law k01: the law -/
namespace K1
open PySem PySem.Spec PyProof.Rows L2 EX He XH RP
/-- repr(x) where nothing is being shown yet -/
def rR : List V → Hp → VK → Prop := fun xs H Q => ∃ v d, xs = [v] ∧ DV H v d ∧ Sh d 1000000 10 ∧ Q (.str d.shown) H
theorem call_rR {X : Cx} (hg : X.A.guards = some []) (hu : X.A.units + 64 < cLine) (hs : ∃ o, X.K.lookup sysModules = some o) : CallR X (.builtin "repr") rR := by
  intro pins s σ H xs us Q I r h
  obtain ⟨v, d, e, dv, sh, q⟩ := h
  refine call_repr hg hs pins s σ H xs us Q I r ⟨v, d, e, dv, sh.able, Nat.le_trans sh.len ?_, ?_, q⟩
  · rw [sizeLine_eq]
    decide
  · have := sh.deep
    omega
theorem dpB {K : PySem.W.Frag} {H : Hp} : ∀ bs : List Bool, DpAll K H (bs.map V.bl) (bs.map PyData.bool)
  | [] => .nil
  | b :: r => .cons (.bl b) (dpB r)
theorem dpL {K : PySem.W.Frag} {H : Hp} {a : Addr} {bs : List Bool} (h : H a = some (.lst (bs.map V.bl))) : Dp K H (.ref a) (.list (bs.map PyData.bool)) := .lst (SqL.of h) (dpB bs)
def kindsB (x : Str) : List Bool := names23.map (subF x)
def basesB (x : Str) : List Bool := [subF x "MapError", subF x "StateError", subT x "ValueError", subT x "LookupError"]
theorem kindsOf_eq (x : Str) : kindsOf x = (kindsB x).map V.bl := by
  unfold kindsOf kindsB
  rw [List.map_map]
  rfl
theorem basesOf_eq (x : Str) : basesOf x = (basesB x).map V.bl := rfl
def validB : List Bool := [true, false, true, false]
def laterB : List Bool := [false, true, false, true]
def dB (bs : List Bool) : PyData := .list (bs.map PyData.bool)
theorem eqvB : ∀ bs : List Bool, PyData.eqvAll (bs.map PyData.bool) (bs.map PyData.bool) = true
  | [] => rfl
  | b :: r => by
    show ((b == b) && PyData.eqvAll (r.map PyData.bool) (r.map PyData.bool)) = true
    rw [eqvB r]
    cases b <;> rfl
theorem eqv_dB (bs : List Bool) : PyData.eqv (dB bs) (dB bs) = true := eqvB bs
theorem place : ∀ i < 23, names23.getD i "" ∈ all25 ∧ kindsB (names23.getD i "") = (List.range 23).map (fun k => decide (k = i)) ∧ basesB (names23.getD i "") = (if i < 19 then validB else laterB) := by decide +kernel
theorem layB : ∀ bs : List Bool, PyData.canLayAll0 (bs.map PyData.bool) = true
  | [] => rfl
  | b :: r => by
    show (true && PyData.canLayAll0 (r.map PyData.bool)) = true
    rw [layB r]
    rfl
theorem shaped_dB (bs : List Bool) : SeqAt.shaped (dB bs) = true := by
  refine Bool.and_eq_true_iff.mpr ⟨layB bs, decide_eq_true ?_⟩
  have h : PyData.depthAll (bs.map PyData.bool) ≤ 0 := depthAll_le fun d hd => by
    obtain ⟨b, _, rfl⟩ := List.mem_map.mp hd
    exact Nat.le_refl _
  show PyData.depthAll (bs.map PyData.bool) + 1 ≤ 64
  omega
theorem sq_same {K : PySem.W.Frag} {H G : Hp} {a : Addr} {xs : List V} (h : SqL K H a xs) (e : Same H G) : SqL K G a xs := by
  rcases h with (h | ⟨o, h⟩) | h
  · exact .inl (.inl (e _ _ h))
  · exact .inl (.inr ⟨o, e _ _ h⟩)
  · exact .inr h
theorem dv_rep {H : Hp} {a : Addr} {v : V} {d : PyData} {n : Nat} (h : H a = some (.lst (List.replicate n v))) (dv : DV H v d) : DV H (.ref a) (.list (List.replicate n d)) := by
  refine .lst h (by rw [List.length_replicate, List.length_replicate]) fun i x e hx he => ?_
  have e1 := List.eq_of_mem_replicate (List.mem_of_getElem? hx)
  have e2 := List.eq_of_mem_replicate (List.mem_of_getElem? he)
  rw [e1, e2]
  exact dv
theorem sh_rep {d : PyData} (h : Sh d 8000 2) : Sh (.list (List.replicate 21 d)) 1000000 10 := by
  refine (Sh.list (n := 8000) (m := 2) fun e he => ?_).mono (by rw [List.length_replicate]; decide) (by decide)
  rw [List.eq_of_mem_replicate he]
  exact h
theorem dv_two {H : Hp} {a l : Addr} {v : V} {d : PyData} {k : Int} (h : H a = some (.lst [v, .ref l])) (hl : H l = some (.lst [.int k])) (dv : DV H v d) : DV H (.ref a) (.list [d, .list [.int k]]) := by
  refine .lst h rfl fun i x e hx he => ?_
  match i with
  | 0 => cases hx; cases he; exact dv
  | 1 =>
    cases hx
    cases he
    refine .lst hl rfl fun i x e hx he => ?_
    match i with
    | 0 => cases hx; cases he; exact .int k
    | i + 1 => simp at hx
  | i + 2 => simp at hx
theorem sh_two {d : PyData} {k : Int} (h : Sh d 8000 2) (h0 : 0 ≤ k) (h1 : k ≤ 1000) : Sh (.list [d, .list [.int k]]) 1000000 10 := by
  have hk : Sh (.int k) 201 0 := Sh.int (k := 200) (by decide) (by
    by_cases z : k.natAbs = 0
    · rw [z]
      decide
    · exact Nat.lt_of_lt_of_le ((Nat.log2_lt z).mpr (by omega : k.natAbs < 2 ^ 10)) (by decide)) (by decide)
  have hl : Sh (.list [.int k]) 8000 2 := (Sh.list (n := 201) (m := 0) fun e he => by
    rw [List.mem_singleton.mp he]
    exact hk).mono (by show 1 * 203 + 2 ≤ _; decide) (by decide)
  refine (Sh.list (n := 8000) (m := 2) fun e he => ?_).mono (by show 2 * 8002 + 2 ≤ _; decide) (by decide)
  rcases List.mem_cons.mp he with z | z
  · rw [z]
    exact h
  · rw [List.mem_singleton.mp z]
    exact hl
theorem tab_name {v : V} {i : Nat} {q : Str × List (Str × V)} (h : (tab v)[i]? = some q) : q.1 = names23.getD i "" := by
  have e : (tab v).map (·.1) = names23 := rfl
  have e2 : names23[i]? = some q.1 := by
    rw [← e, List.getElem?_map, h]
    rfl
  rw [List.getD_eq_getElem?_getD, e2]
  rfl
theorem exs_len {K : PySem.W.Frag} {H : Hp} {es : List Addr} {v : V} (h : Exs K H es (tab v)) : es.length = 23 := Paired.length h
theorem Exs.same {K : PySem.W.Frag} {H G : Hp} {es : List Addr} {l : List (Str × List (Str × V))} (h : Exs K H es l) (e : Same H G) : Exs K G es l := by
  unfold Exs at h ⊢
  induction h with
  | nil => exact .nil
  | cons y _ ih => exact .cons (y.same e) ih
/-- what _law_told is to be -/
def toldD (t : Nat) : PyData := .list [.int (tellOf t).1, dB (basesB (tellOf t).2)]
theorem told_ok : PyData.eqv (.list [toldD 0, toldD 1, toldD 2, toldD 3, toldD 4]) (.list [.list [.int 0, dB validB], .list [.int 1, dB laterB], .list [.int 0, dB validB], .list [.int 0, dB validB], .list [.int 1, dB laterB]]) = true := by decide +kernel
theorem told_sh1 : SeqAt.shaped (.list [toldD 0, toldD 1, toldD 2, toldD 3, toldD 4]) = true := by decide +kernel
theorem told_sh2 : SeqAt.shaped (.list [.list [.int 0, dB validB], .list [.int 1, dB laterB], .list [.int 0, dB validB], .list [.int 0, dB validB], .list [.int 1, dB laterB]]) = true := by decide +kernel
theorem none_is : kindsB "MapError" = List.replicate 23 false ∧ kindsB "StateError" = List.replicate 23 false ∧ ("MapError" : Str) ∈ all25 ∧ ("StateError" : Str) ∈ all25 := by decide +kernel
theorem dp_two {K : PySem.W.Frag} {H : Hp} {r q : Addr} {k : Int} {bs : List Bool} (h : H r = some (.lst [.int k, .ref q])) (hq : H q = some (.lst (bs.map V.bl))) : Dp K H (.ref r) (.list [.int k, dB bs]) := .lst (SqL.of h) (.cons (.int k) (.cons (dpL hq) .nil))
structure TL (P : Program) (w : World) (K : PySem.W.Frag) (mg : Str → Option Value) (base : Heap) : Prop where
  cell : Df P w K mg base "_law_cell" 1 ["_law_script", "_law_k"] (spCell K)
  box : Df P w K mg base "_law_box" 1 ["_law_cell_here"] spBox
  value : Df P w K mg base "_law_value" 2 ["_law_box_here"] spValue
  made : Df P w K mg base "_law_made" 3 ["_law_thing"] (spMade K)
  named : Df P w K mg base "_law_named" 3 ["_law_thing"] (spMade K)
  kinds : Df P w K mg base "_law_kinds" 1 ["_law_e"] (spKinds K)
  bases : Df P w K mg base "_law_bases" 1 ["_law_e"] (spBases K)
  fields : Df P w K mg base "_law_fields" 1 ["_law_some"] (spFields K)
  grown : Df P w K mg base "_law_grown" 1 ["_law_thing"] spGrown
  caught : Df P w K mg base "_law_caught" 3 ["_law_turn", "_law_thing"] (spCaught K)
  xs : TX P w K mg base
  c9 : TC9 P w K mg base
  range : mg "range" = none
  max : mg "max" = none
  min : mg "min" = none
  len : mg "len" = none
  enum : mg "enumerate" = none
  repr : mg "repr" = none
  sys : ∃ o, K.lookup sysModules = some o
abbrev sLaw : Stmt := top 38
abbrev nLaw : List Str := ["_law_script", "_law_valid", "_law_later", "_law_k", "_law_box_here", "_law_thing", "_law_some", "_law_at", "_law_e", "_law_due", "_law_found", "_law_told", "_law_place", "_law_one", "_law_turn"]
theorem sc_law : FnScope nLaw ["_law_script"] (defScope sLaw) := ⟨rfl, rfl, rfl, by decide +kernel, rfl, by decide +kernel, by decide +kernel⟩
def spLaw (K : PySem.W.Frag) : Sp := fun vs H Q _ => ∃ (a : Addr) (ns : List Int), vs = [.ref a] ∧ SqL K H a (ns.map V.int) ∧ ∀ H', Q (.bl true) H'
section
variable {P : Program} {w : World} {K : PySem.W.Frag} {mg : Str → Option Value} {base : Heap} {f : Addr} {fd : FuncData}
theorem ok_law (F : FnP K "law" sLaw f fd) (T : TL P w K mg base) : TopOk P w K mg base f fd ["_law_script"] (spLaw K) := by
  have nd := sc_law.nd
  refine topOk_of (k := 3) F sc_law ⟨rfl, by decide, by decide⟩ (fun vs H Q E h => ?_) (fun cdv s H vs Q E hr h => ?_)
  · obtain ⟨a, ns, rfl, _⟩ := h
    rfl
  · obtain ⟨a, ns, rfl, hS, q⟩ := h
    have hu : (callerA.deeper (envOfC "law" (defScope sLaw) s.heap.objs.size f cdv)).units + 64 < cLine := by have := hr.un; omega
    have r1 := hr.mono (by decide : 1 ≤ 3)
    have r2 := hr.mono (by decide : 2 ≤ 3)
    have hg : (callerA.deeper (envOfC "law" (defScope sLaw) s.heap.objs.size f cdv)).guards = some [] := rfl
    refine ⟨_, PSs.nox (pss_cons (ps_par rfl nd (i := 1) (j := 2) rfl rfl (by decide) rfl rfl (pa_cons (pe_lst (pa_cons pe_bl (pa_cons pe_bl (pa_cons pe_bl (pa_cons pe_bl pa_nil))))) (pa_cons (pe_lst (pa_cons pe_bl (pa_cons pe_bl (pa_cons pe_bl (pa_cons pe_bl pa_nil))))) pa_nil)) rfl)
      (pss_cons (ps_for PassesOwn.never rfl (pi_range1 (by rfl) T.range (pa_cons (pe_callB (call_max2 rfl) (by rfl) T.max (by decide +kernel) (pa_cons pe_int (pa_cons (pe_callB (call_min2 rfl) (by rfl) T.min (by decide +kernel) (pa_cons pe_int (pa_cons (pe_callB call_len_seq (by rfl) T.len boot_len (pa_cons (pv 0) pa_nil)) pa_nil))) pa_nil))) pa_nil)) (pg_name (i := 3) nd rfl (.inl rfl))
          (pss_cons (ps_set (i := 4) nd rfl (.inl rfl) (pe_D T.box r1 (by rfl) (pa_cons (pe_D T.cell r1 (by rfl) (pa_cons (pv 0) (pa_cons (pv 3) pa_nil))) pa_nil)))
          (pss_cons (ps_set (i := 5) nd rfl (.inr rfl) (pe_D T.value r2 (by rfl) (pa_cons (pv 4) pa_nil)))
          (pss_cons (ps_set (i := 6) nd rfl (.inl rfl) (pe_D T.made hr (by rfl) (pa_cons (pv 5) pa_nil)))
          (pss_cons (ps_for PassesOwn.never rfl (pi_enum (by rfl) T.enum (pa_cons (pv 6) pa_nil)) (pg_tup rfl (pgs_cons (pg_name (i := 7) nd rfl (.inr rfl)) (pgs_cons (pg_name (i := 8) nd rfl (.inl rfl)) pgs_nil)))
              (pss_cons (ps_set (i := 9) nd rfl (.inl rfl) (pe_ifExp (pt_cmpR op_lt (pv 7) pe_int (nomark _)) (pv 1) (pv 2)))
                (pss_one (ps_if (pw_or (pt_cmpR (op_neD hu) (pe_D T.kinds r1 (by rfl) (pa_cons (pv 8) pa_nil)) (pe_lc (own := [("_law_place", 12)]) (g := gName 12) (tt := tYes) rfl nd (pi_range1 (by rfl) T.range (pa_cons pe_int pa_nil))
                    (blkOk_by (N := nLaw) (sc := defScope sLaw) (by decide +kernel)) (fun _ _ _ _ _ => pg_name (i := 12) nd rfl (.inl rfl)) (fun _ _ _ _ _ => pts_nil) (fun _ _ _ _ _ => pe_cmpR op_eq (pv 12) (pv 7) (nomark _))) (nomark _))
                  (pw_or1 (pt_cmpR (op_neD hu) (pe_D T.bases r1 (by rfl) (pa_cons (pv 8) pa_nil)) (pv 9) (nomark _)))).pt (pss_one (ps_ret pe_bl)) pss_nil))))
          (pss_cons (ps_set (i := 10) nd rfl (.inl rfl) (pe_D T.fields r1 (by rfl) (pa_cons (pv 6) pa_nil)))
          (pss_cons (ps_if (pt_cmpR op_ne (pe_callB (call_rR hg hu T.sys) (by rfl) T.repr (by decide +kernel) (pa_cons (pe_D T.fields r1 (by rfl) (pa_cons (pe_D T.named hr (by rfl) (pa_cons (pv 5) pa_nil)) pa_nil)) pa_nil))
              (pe_callB (call_rR hg hu T.sys) (by rfl) T.repr (by decide +kernel) (pa_cons (pv 10) pa_nil)) (nomark _)) (pss_one (ps_ret pe_bl)) pss_nil)
          (pss_cons (ps_expr (pe_D T.grown r1 (by rfl) (pa_cons (pv 5) pa_nil)))
          (pss_cons (ps_if (pt_cmpR (op_neD hu) (pe_lc (own := [("_law_one", 13)]) (g := gName 13) rfl nd (pi_list (pv 10)) (blkOk_by (N := nLaw) (sc := defScope sLaw) (by decide +kernel)) (fun _ _ _ _ _ => pg_name (i := 13) nd rfl (.inl rfl))
              (fun _ _ _ _ _ => pts_one (pt_cmpR op_ne (pe_callB (call_rR hg hu T.sys) (by rfl) T.repr (by decide +kernel) (pa_cons (pv 13) pa_nil)) (pe_callB (call_rR hg hu T.sys) (by rfl) T.repr (by decide +kernel) (pa_cons (pv 5) pa_nil)) (nomark _))) (fun _ _ _ _ _ => pv 13)) (pe_lst pa_nil) (nomark _)) (pss_one (ps_ret pe_bl)) pss_nil)
          (pss_cons (ps_set (i := 8) nd rfl (.inl rfl) (pe_X T.xs.m18 (by decide) r2 (by rfl) (pa_cons (pv 5) (pa_cons (pe_lst (pa_cons (pv 3) pa_nil)) pa_nil))))
          (pss_cons (ps_if (pt_cmpR op_ne (pe_callB (call_rR hg hu T.sys) (by rfl) T.repr (by decide +kernel) (pa_cons (pe_lst (pa_cons (pe_xfl (pv 8)) (pa_cons (pe_xfl (pv 8)) pa_nil))) pa_nil))
              (pe_callB (call_rR hg hu T.sys) (by rfl) T.repr (by decide +kernel) (pa_cons (pe_lst (pa_cons (pv 5) (pa_cons (pe_lst (pa_cons (pv 3) pa_nil)) pa_nil))) pa_nil)) (nomark _)) (pss_one (ps_ret pe_bl)) pss_nil)
          (pss_cons (ps_setLc (i := 11) (own := [("_law_turn", 14)]) (g := gName 14) (tt := tYes) rfl nd rfl rfl (sw_true rfl rfl rfl (by decide +kernel)) (pi_range1 (by rfl) T.range (pa_cons pe_int pa_nil)) (blkOk_by (N := nLaw) (sc := defScope sLaw) (by decide +kernel))
              (fun _ _ _ _ _ => pg_name (i := 14) nd rfl (.inl rfl)) (fun _ _ _ _ _ => pts_nil) (fun _ _ _ _ _ => pe_D T.caught hr (by rfl) (pa_cons (pv 14) (pa_cons (pv 5) pa_nil))))
          (pss_cons (ps_if (pt_cmpR (op_neD hu) (pv 11) (pe_lst (pa_cons (pe_lst (pa_cons pe_int (pa_cons (pv 1) pa_nil))) (pa_cons (pe_lst (pa_cons pe_int (pa_cons (pv 2) pa_nil))) (pa_cons (pe_lst (pa_cons pe_int (pa_cons (pv 1) pa_nil)))
              (pa_cons (pe_lst (pa_cons pe_int (pa_cons (pv 1) pa_nil))) (pa_cons (pe_lst (pa_cons pe_int (pa_cons (pv 2) pa_nil))) pa_nil)))))) (nomark _)) (pss_one (ps_ret pe_bl)) pss_nil)
          (pss_one (ps_if (pw_or (pt_cmpR (op_neD hu) (pe_D T.kinds r1 (by rfl) (pa_cons (pe_xown PySem.F.excBase_ValueError T.c9.exM (T.c9.glo (x := "MapError") (by decide +kernel)) T.c9.kpM (by rfl)) pa_nil)) (pe_op op_rep (pe_lst (pa_cons pe_bl pa_nil)) pe_int) (nomark _))
              (pw_or1 (pt_cmpR (op_neD hu) (pe_D T.kinds r1 (by rfl) (pa_cons (pe_xown PySem.F.excBase_LookupError T.c9.exS (T.c9.glo (x := "StateError") (by decide +kernel)) T.c9.kpS (by rfl)) pa_nil)) (pe_op op_rep (pe_lst (pa_cons pe_bl pa_nil)) pe_int) (nomark _)))).pt (pss_one (ps_ret pe_bl)) pss_nil)))))))))))))))
        (pss_one (ps_ret pe_bl)))), ?_⟩
    refine ⟨(by show 4 ≤ sizeLine; decide), fun p1 e1 => ⟨(by show 4 ≤ sizeLine; decide), fun p2 e2 => ⟨_, _, rfl, ?_⟩⟩⟩
    have t1 : Same H (upd H p1 (.lst [.bl true, .bl false, .bl true, .bl false])) := new_same e1
    have l1 : (upd H p1 (.lst [.bl true, .bl false, .bl true, .bl false])) p1 = some (.lst (validB.map V.bl)) := upd_same
    generalize upd H p1 (.lst [.bl true, .bl false, .bl true, .bl false]) = H1 at t1 l1 e2
    have t2 : Same H1 (upd H1 p2 (.lst [.bl false, .bl true, .bl false, .bl true])) := new_same e2
    have l2 : (upd H1 p2 (.lst [.bl false, .bl true, .bl false, .bl true])) p2 = some (.lst (laterB.map V.bl)) := upd_same
    generalize upd H1 p2 (.lst [.bl false, .bl true, .bl false, .bl true]) = H2 at t2 l2
    have l1 := t2 _ _ l1
    have hS := sq_same hS (t1.trans t2)
    refine ⟨_, rfl, a, _, rfl, .inl hS, _, _, rfl, _, _, rfl, _, rfl, ?_, ?_, ?_⟩
    · split <;> split <;> omega
    · split <;> split <;> omega
    refine for_range (fun i σ G => (∃ s3 s4 s5 s6 s7 s8 s9 s10 s11 s12 s13 s14, σ = [some (.ref a), some (.ref p1), some (.ref p2), s3, s4, s5, s6, s7, s8, s9, s10, s11, s12, s13, s14]) ∧ Same H2 G) ⟨⟨_, _, _, _, _, _, _, _, _, _, _, _, rfl⟩, Same.refl _⟩ ?_ (fun σ G _ => q G)
    rintro i0 σ G hi ⟨⟨s3, s4, s5, s6, s7, s8, s9, s10, s11, s12, s13, s14, rfl⟩, sm⟩
    have hi6 : i0 < 7 := by
      revert hi
      split <;> split <;> omega
    clear hi
    refine ⟨_, rfl, _, rfl, a, _, _, rfl, sq_same hS sm, by omega, by omega, fun c => ⟨c, rfl, fun p G1 np sm1 box => ?_⟩⟩
    refine ⟨_, rfl, p, rfl, box, fun v as G2 bt fr th => ?_⟩
    have sm2 : Same G G2 := fun b o e => bt b o (ne_of_none e np) (sm1 b o e)
    have fr2 : ∀ b ∈ as, G b = none := fun b hb => none_back sm1 (fr b hb)
    refine ⟨_, rfl, v, rfl, fun r1 es G3 sm3 l3 ex3 => ?_⟩
    have l13 := sm3 _ _ (sm2 _ _ (sm _ _ l1))
    have l23 := sm3 _ _ (sm2 _ _ (sm _ _ l2))
    have hlen := exs_len ex3
    refine ⟨_, rfl, r1, _, rfl, SqL.of l3, ?_⟩
    refine for_it walk_enum (fun i σ' G' => (∃ s7 s8 s9, σ' = [some (.ref a), some (.ref p1), some (.ref p2), some (.int (0 + ((i0 : Nat) : Int))), some (.ref p), some v, some (.ref r1), s7, s8, s9, s10, s11, s12, s13, s14]) ∧ Same G3 G') ⟨⟨_, _, _, rfl⟩, Same.refl _⟩ (fun _ σ' G' _ ⟨_, z⟩ => SqL.of (z _ _ l3)) ?_ ?_
    · rintro i x σ' J0 J hi ⟨⟨s7, s8, s9, rfl⟩, sm4⟩ ⟨T0, x0, y0, rfl, nT, rfl, ex0, ey0⟩
      rw [List.length_map, hlen] at hi
      cases ex0
      have smJ : Same G3 (upd J0 T0 (.tup [.int (i : Nat), y0])) := sm4.trans (new_same nT)
      refine ⟨T0, _, rfl, SqT.of upd_same, rfl, _, _, rfl, _, _, rfl, rfl, ?_⟩
      generalize upd J0 T0 (.tup [.int (i : Nat), y0]) = J at smJ
      obtain ⟨bq, hbq⟩ : ∃ bq, (tab v)[i]? = some bq := ⟨_, List.getElem?_eq_getElem (by show i < 23; exact hi)⟩
      obtain ⟨b, eb, ixb⟩ := ex3.at hbq
      have ey : y0 = .ref b := by
        have ey0 : (es.map V.ref)[i]? = some y0 := ey0
        rw [List.getElem?_map, eb] at ey0
        exact (Option.some.inj ey0).symm
      subst ey
      have hnm := tab_name hbq
      obtain ⟨hx, pk, pb⟩ := place i hi
      have ix := ixb.same smJ
      rw [hnm] at ix
      refine ⟨_, rfl, _, _, rfl, rfl, _, rfl, ite2 (fun h => ?_) fun h => ?_⟩
      · have h19 : i < 19 := by
          have := of_decide_eq_true h
          omega
        refine ⟨_, rfl, ?_⟩
        · skip
          refine ⟨_, rfl, b, _, _, rfl, hx, ix, fun q1 J1 sj lq => ⟨_, rfl, by decide, by decide, fun D hD => ?_⟩⟩
          refine lc_range (fun m Z => Z D = some (.lst ((List.range m).map fun k => V.bl (decide (k = i)))) ∧ Same J1 Z) ⟨upd_same, new_same hD⟩ ?_ ?_
          · rintro m Z hm ⟨zD, zs⟩
            refine ⟨rfl, ⟨_, rfl, _, rfl, rfl, _, zD, ?_, ?_, ?_⟩⟩
            · rw [List.length_map, List.length_range, sizeLine_eq]
              have := hm
              omega
            · have e : decide (V.int (0 + (m : Int)) = V.int (i : Int)) = decide (m = i) := decide_eq_decide.mpr ⟨fun z => by
                have := V.int.inj z
                omega, fun z => by rw [z, Int.zero_add]⟩
              rw [e, upd_same, List.range_succ, List.map_append]
              rfl
            · exact fun c o e => by
                rw [upd_ne (ne_of_none e hD)]
                exact zs c o e
          rintro J2 ⟨zD, zs⟩
          have lk : J2 q1 = some (.lst ((kindsB (names23.getD i "")).map V.bl)) := by
            rw [← kindsOf_eq]
            exact zs _ _ lq
          have lD : J2 D = some (.lst ((kindsB (names23.getD i "")).map V.bl)) := by
            rw [zD, pk, List.map_map]
            rfl
          refine ⟨dB _, dB _, dpL lk, dpL lD, shaped_dB _, shaped_dB _, ?_⟩
          rw [eqv_dB]
          refine ⟨_, rfl, ?_⟩
          refine (iteF ?_ : if false = true then _ else _)
          refine ⟨_, rfl, b, _, _, rfl, hx, (ix.same sj).same zs, fun q2 J3 sj3 lq2 => ⟨_, rfl, ?_⟩⟩
          have S3 : Same G3 J3 := ((smJ.trans sj).trans zs).trans sj3
          refine ⟨dB _, dB validB, dpL (by rw [← basesOf_eq]; exact lq2), dpL (S3 _ _ (l13)), shaped_dB _, shaped_dB _, ?_⟩
          rw [pb, if_pos h19, eqv_dB]
          refine ⟨_, rfl, ?_⟩
          refine (iteF ?_ : if false = true then _ else _)
          exact ⟨⟨_, _, _, rfl⟩, S3⟩
      · have h19 : ¬ i < 19 := fun z => h (decide_eq_true (by omega))
        refine ⟨_, rfl, ?_⟩
        · skip
          refine ⟨_, rfl, b, _, _, rfl, hx, ix, fun q1 J1 sj lq => ⟨_, rfl, by decide, by decide, fun D hD => ?_⟩⟩
          refine lc_range (fun m Z => Z D = some (.lst ((List.range m).map fun k => V.bl (decide (k = i)))) ∧ Same J1 Z) ⟨upd_same, new_same hD⟩ ?_ ?_
          · rintro m Z hm ⟨zD, zs⟩
            refine ⟨rfl, ⟨_, rfl, _, rfl, rfl, _, zD, ?_, ?_, ?_⟩⟩
            · rw [List.length_map, List.length_range, sizeLine_eq]
              have := hm
              omega
            · have e : decide (V.int (0 + (m : Int)) = V.int (i : Int)) = decide (m = i) := decide_eq_decide.mpr ⟨fun z => by
                have := V.int.inj z
                omega, fun z => by rw [z, Int.zero_add]⟩
              rw [e, upd_same, List.range_succ, List.map_append]
              rfl
            · exact fun c o e => by
                rw [upd_ne (ne_of_none e hD)]
                exact zs c o e
          rintro J2 ⟨zD, zs⟩
          have lk : J2 q1 = some (.lst ((kindsB (names23.getD i "")).map V.bl)) := by
            rw [← kindsOf_eq]
            exact zs _ _ lq
          have lD : J2 D = some (.lst ((kindsB (names23.getD i "")).map V.bl)) := by
            rw [zD, pk, List.map_map]
            rfl
          refine ⟨dB _, dB _, dpL lk, dpL lD, shaped_dB _, shaped_dB _, ?_⟩
          rw [eqv_dB]
          refine ⟨_, rfl, ?_⟩
          refine (iteF ?_ : if false = true then _ else _)
          refine ⟨_, rfl, b, _, _, rfl, hx, (ix.same sj).same zs, fun q2 J3 sj3 lq2 => ⟨_, rfl, ?_⟩⟩
          have S3 : Same G3 J3 := ((smJ.trans sj).trans zs).trans sj3
          refine ⟨dB _, dB laterB, dpL (by rw [← basesOf_eq]; exact lq2), dpL (S3 _ _ (l23)), shaped_dB _, shaped_dB _, ?_⟩
          rw [pb, if_neg h19, eqv_dB]
          refine ⟨_, rfl, ?_⟩
          refine (iteF ?_ : if false = true then _ else _)
          exact ⟨⟨_, _, _, rfl⟩, S3⟩
    rintro σ' G4 ⟨⟨s7, s8, s9, rfl⟩, sm4⟩
    have ex4 : Exs K G4 es (tab v) := ex3.same sm4
    refine ⟨_, rfl, r1, v, es, rfl, sm4 _ _ l3, ex4, fun r2 G5 sm5 n5 l5 => ?_⟩
    have th5 : Th 2 G5 v as := ((th.same sm3).same sm4).same sm5
    have k5 : 0 ≤ 0 + (i0 : Int) ∧ 0 + (i0 : Int) ≤ 1000 := ⟨by omega, by omega⟩
    generalize 0 + (i0 : Int) = kk at k5
    refine ⟨_, rfl, v, rfl, fun r3 es3 G6 sm6 l6 ex6 => ⟨r3, v, es3, rfl, l6, ex6, fun r4 G7 sm7 n7 l7 => ?_⟩⟩
    have th7 : Th 2 G7 v as := (th5.same sm6).same sm7
    obtain ⟨d7, dv7, sh7⟩ := th7.dv (by decide)
    refine ⟨_, _, rfl, dv_rep l7 dv7, sh_rep sh7, _, rfl, _, _, rfl, dv_rep (sm7 _ _ (sm6 _ _ l5)) dv7, sh_rep sh7, rfl, _, rfl, iteNS rfl ?_⟩
    refine ⟨_, rfl, v, as, rfl, th7, fun G8 out8 th8 => ?_⟩
    have fr4 : ∀ b ∈ as, ∀ o, G b = some o → False := fun b hb o e => by
      rw [fr2 b hb] at e
      cases e
    have sm37 : Same G G7 := sm2.trans (sm3.trans (sm4.trans (sm5.trans (sm6.trans sm7))))
    have sm8 : Same G G8 := fun b o e => out8 b o (fun hb => fr4 b hb o e) (sm37 b o e)
    have r2as : r2 ∉ as := fun hb => ((th.same sm3).same sm4).on r2 hb n5
    have l8 : G8 r2 = some (.lst (List.replicate 21 v)) := out8 _ _ r2as (sm7 _ _ (sm6 _ _ l5))
    obtain ⟨d8, dv8, sh8⟩ := th8.dv (by decide)
    have l18 := sm8 _ _ (sm _ _ l1)
    have l28 := sm8 _ _ (sm _ _ l2)
    have sm28 : Same H2 G8 := sm.trans sm8
    clear ex4 ex3 l3 l5 l6 ex6 l7 dv7 th7 th5 th box bt sm5 sm6 sm7 sm37 out8 n5 n7 sh7 l13 l23 hlen
    refine ⟨_, rfl, r2, rfl, ⟨_, SqL.of l8⟩, fun D hD => ?_⟩
    refine lc_list (xs := List.replicate 21 v) (fun _ Z => Z D = some (.lst []) ∧ Same G8 Z) ⟨upd_same, new_same hD⟩ (fun _ Z _ z => SqL.of (z.2 _ _ l8)) ?_ ?_
    · rintro m x Z hx ⟨zD, zs⟩
      have ev := List.eq_of_mem_replicate (List.mem_of_getElem? hx)
      subst ev
      refine ⟨rfl, ⟨_, rfl, _, _, rfl, dv8.same zs, sh8.mono (by decide) (by decide), _, rfl, _, _, rfl, dv8.same zs, sh8.mono (by decide) (by decide), rfl, _, rfl, ?_⟩⟩
      exact iteNS rfl ⟨zD, zs⟩
    rintro G9 ⟨zD, sm9⟩
    refine ⟨(by show 0 ≤ sizeLine; decide), fun z9 hz9 => ?_⟩
    refine ⟨.list [], .list [], .lst (SqL.of (new_same hz9 _ _ zD)) .nil, .lst (SqL.of upd_same) .nil, rfl, rfl, ?_⟩
    refine ⟨_, rfl, (iteF ?_ : if false = true then _ else _)⟩
    have sm10 := sm9.trans (new_same (o := .lst []) hz9)
    generalize upd G9 z9 (.lst []) = G10 at sm10
    refine ⟨_, rfl, _, rfl, (by show 1 ≤ sizeLine; decide), fun y1 hy1 => ⟨rfl, fun x1 G11 nx sm11 ix11 => ?_⟩⟩
    have ly1 : G11 y1 = some (.lst [.int kk]) := sm11 _ _ upd_same
    have sm11 : Same G8 G11 := sm10.trans ((new_same hy1).trans sm11)
    refine ⟨_, rfl, x1, _, _, v, rfl, T.xs.m18.ec, T.xs.m18.no "left" (by decide), ix11, rfl, _, rfl, x1, _, _, V.ref y1, rfl, T.xs.m18.ec, T.xs.m18.no "right" (by decide), ix11, rfl, (by show 2 ≤ sizeLine; decide), fun y2 hy2 => ?_⟩
    have ly2 : (upd G11 y2 (.lst [v, .ref y1])) y2 = some (.lst [v, .ref y1]) := upd_same
    have sm12 := sm11.trans (new_same (o := .lst [v, .ref y1]) hy2)
    have ly12 := new_same (o := .lst [v, .ref y1]) hy2 _ _ ly1
    generalize upd G11 y2 (.lst [v, .ref y1]) = G12 at ly2 sm12 ly12
    refine ⟨_, _, rfl, dv_two ly2 ly12 (dv8.same sm12), sh_two sh8 k5.1 k5.2, _, rfl, _, rfl, (by show 1 ≤ sizeLine; decide), fun y3 hy3 => ⟨(by show 2 ≤ sizeLine; decide), fun y4 hy4 => ?_⟩⟩
    have ly3 : (upd G12 y3 (.lst [.int kk])) y3 = some (.lst [.int kk]) := upd_same
    have sm13 := sm12.trans (new_same (o := .lst [.int kk]) hy3)
    generalize upd G12 y3 (.lst [.int kk]) = G13 at ly3 sm13 hy4
    have ly4 : (upd G13 y4 (.lst [v, .ref y3])) y4 = some (.lst [v, .ref y3]) := upd_same
    have sm14 := sm13.trans (new_same (o := .lst [v, .ref y3]) hy4)
    have ly34 := new_same (o := .lst [v, .ref y3]) hy4 _ _ ly3
    generalize upd G13 y4 (.lst [v, .ref y3]) = G14 at ly4 sm14 ly34
    refine ⟨_, _, rfl, dv_two ly4 ly34 (dv8.same sm14), sh_two sh8 k5.1 k5.2, rfl, _, rfl, iteNS rfl ?_⟩
    refine ⟨_, rfl, by decide, by decide, fun D5 hD5 => ?_⟩
    refine lc_range (fun m Z => (∃ rs : List Addr, Z D5 = some (.lst (rs.map V.ref)) ∧ rs.length = m ∧ ∀ (t : Nat) (r : Addr), rs[t]? = some r → ∃ qa, Z r = some (.lst [.int (tellOf t).1, .ref qa]) ∧ Z qa = some (.lst (basesOf (tellOf t).2))) ∧ Same G14 Z) ⟨⟨[], upd_same, rfl, fun t r z => (by simp at z)⟩, new_same hD5⟩ ?_ ?_
    · rintro m Z hm ⟨⟨rs, zD, zl, zr⟩, zs⟩
      refine ⟨rfl, ⟨_, rfl, _, rfl, _, v, rfl, fun r qa Z2 s2 lr lq => ⟨rs.map V.ref, s2 _ _ zD, ?_, ⟨rs ++ [r], ?_, ?_, ?_⟩, ?_⟩⟩⟩
      · rw [List.length_map, zl, sizeLine_eq]
        have := hm
        omega
      · rw [upd_same, List.map_append]
        rfl
      · rw [List.length_append, zl]
        rfl
      · intro t r' hr'
        have keep : ∀ {b : Addr} {o : HO}, Z2 b = some o → b ≠ D5 → upd Z2 D5 (.lst (rs.map V.ref ++ [.ref r])) b = some o := fun e n => by
          rw [upd_ne n]
          exact e
        have dD := s2 _ _ zD
        have tD : ∀ {b : Addr} {k : Int} {qa : Addr}, Z2 b = some (.lst [.int k, .ref qa]) → b ≠ D5 := fun e n => by
          rw [n, dD] at e
          have e' := HO.lst.inj (Option.some.inj e)
          cases rs with
          | nil => cases e'
          | cons z r => cases e'
        have bD : ∀ {b : Addr} {x : Str}, Z2 b = some (.lst (basesOf x)) → b ≠ D5 := fun e n => by
          rw [n, dD] at e
          have e' := HO.lst.inj (Option.some.inj e)
          cases rs with
          | nil => cases e'
          | cons z r => cases e'
        by_cases ht : t < rs.length
        · rw [List.getElem?_append_left ht] at hr'
          obtain ⟨qb, g1, g2⟩ := zr t r' hr'
          exact ⟨qb, keep (s2 _ _ g1) (tD (s2 _ _ g1)), keep (s2 _ _ g2) (bD (s2 _ _ g2))⟩
        · have et : t = rs.length := by
            have := (List.getElem?_eq_some_iff.mp hr').1
            rw [List.length_append] at this
            have e1 : ([r] : List Addr).length = 1 := rfl
            omega
          rw [et, List.getElem?_append_right (Nat.le_refl _), Nat.sub_self] at hr'
          cases hr'
          have em : (0 : Int) + ((m : Nat) : Int) = (t : Int) := by omega
          rw [em] at lr lq
          exact ⟨qa, keep lr (tD lr), keep lq (bD lq)⟩
      · exact fun b o e => by
          rw [upd_ne (ne_of_none e hD5)]
          exact s2 _ _ (zs b o e)
    rintro G15 ⟨⟨rs, lD5, zl, zr⟩, sm15⟩
    obtain ⟨g0, g1, g2, g3, g4, rfl⟩ : ∃ g0 g1 g2 g3 g4, rs = [g0, g1, g2, g3, g4] := by
      match rs, zl with
      | [a, b, c, d, e], _ => exact ⟨a, b, c, d, e, rfl⟩
    obtain ⟨h0, u0, w0⟩ := zr 0 g0 rfl
    obtain ⟨h1, u1, w1⟩ := zr 1 g1 rfl
    obtain ⟨h2, u2, w2⟩ := zr 2 g2 rfl
    obtain ⟨h3, u3, w3⟩ := zr 3 g3 rfl
    obtain ⟨h4, u4, w4⟩ := zr 4 g4 rfl
    have k1 := sm15 _ _ (sm14 _ _ l18)
    have k2 := sm15 _ _ (sm14 _ _ l28)
    have smE : Same H2 G15 := (sm28.trans sm14).trans sm15
    refine ⟨_, rfl, _, rfl, (by show 2 ≤ sizeLine; decide), fun c0 hc0 => ?_⟩
    have x0 := new_same (o := .lst [.int 0, .ref p1]) hc0
    have v0 : (upd G15 c0 (.lst [.int 0, .ref p1])) c0 = some (.lst [.int 0, .ref p1]) := upd_same
    generalize upd G15 c0 (.lst [.int 0, .ref p1]) = E0 at x0 v0
    refine ⟨_, rfl, (by show 2 ≤ sizeLine; decide), fun c1 hc1 => ?_⟩
    have x1' := new_same (o := .lst [.int 1, .ref p2]) hc1
    have v1 : (upd E0 c1 (.lst [.int 1, .ref p2])) c1 = some (.lst [.int 1, .ref p2]) := upd_same
    generalize upd E0 c1 (.lst [.int 1, .ref p2]) = E1 at x1' v1
    refine ⟨_, rfl, (by show 2 ≤ sizeLine; decide), fun c2 hc2 => ?_⟩
    have x2' := new_same (o := .lst [.int 0, .ref p1]) hc2
    have v2 : (upd E1 c2 (.lst [.int 0, .ref p1])) c2 = some (.lst [.int 0, .ref p1]) := upd_same
    generalize upd E1 c2 (.lst [.int 0, .ref p1]) = E2 at x2' v2
    refine ⟨_, rfl, (by show 2 ≤ sizeLine; decide), fun c3 hc3 => ?_⟩
    have x3' := new_same (o := .lst [.int 0, .ref p1]) hc3
    have v3 : (upd E2 c3 (.lst [.int 0, .ref p1])) c3 = some (.lst [.int 0, .ref p1]) := upd_same
    generalize upd E2 c3 (.lst [.int 0, .ref p1]) = E3 at x3' v3
    refine ⟨_, rfl, (by show 2 ≤ sizeLine; decide), fun c4 hc4 => ⟨(by show 5 ≤ sizeLine; decide), fun c5 hc5 => ?_⟩⟩
    have x4' := new_same (o := .lst [.int 1, .ref p2]) hc4
    have v4 : (upd E3 c4 (.lst [.int 1, .ref p2])) c4 = some (.lst [.int 1, .ref p2]) := upd_same
    generalize upd E3 c4 (.lst [.int 1, .ref p2]) = E4 at x4' v4 hc5
    have x5' := new_same (o := .lst [.ref c0, .ref c1, .ref c2, .ref c3, .ref c4]) hc5
    have v5 : (upd E4 c5 (.lst [.ref c0, .ref c1, .ref c2, .ref c3, .ref c4])) c5 = some (.lst [.ref c0, .ref c1, .ref c2, .ref c3, .ref c4]) := upd_same
    generalize upd E4 c5 (.lst [.ref c0, .ref c1, .ref c2, .ref c3, .ref c4]) = E5 at x5' v5
    have f45 : Same E3 E5 := x4'.trans x5'
    have f35 : Same E2 E5 := x3'.trans f45
    have f25 : Same E1 E5 := x2'.trans f35
    have f15 : Same E0 E5 := x1'.trans f25
    have f05 : Same G15 E5 := x0.trans f15
    have two : ∀ {r qa : Addr} {t : Nat}, G15 r = some (.lst [.int (tellOf t).1, .ref qa]) → G15 qa = some (.lst (basesOf (tellOf t).2)) → Dp K E5 (.ref r) (toldD t) := fun e1 e2 => dp_two (f05 _ _ e1) (by rw [← basesOf_eq]; exact f05 _ _ e2)
    refine ⟨_, _, .lst (SqL.of (f05 _ _ lD5)) (.cons (two u0 w0) (.cons (two u1 w1) (.cons (two u2 w2) (.cons (two u3 w3) (.cons (two u4 w4) .nil))))),
      .lst (SqL.of v5) (.cons (dp_two (f15 _ _ v0) (f05 _ _ k1)) (.cons (dp_two (f25 _ _ v1) (f05 _ _ k2)) (.cons (dp_two (f35 _ _ v2) (f05 _ _ k1)) (.cons (dp_two (f45 _ _ v3) (f05 _ _ k1)) (.cons (dp_two (x5' _ _ v4) (f05 _ _ k2)) .nil))))), told_sh1, told_sh2, ?_⟩
    rw [told_ok]
    refine ⟨_, rfl, (iteF ?_ : if false = true then _ else _)⟩
    have smF : Same H2 E5 := smE.trans f05
    clear f45 f35 f25 f15 f05 two x0 x1' x2' x3' x4' x5' v0 v1 v2 v3 v4 v5 u0 u1 u2 u3 u4 w0 w1 w2 w3 w4 zr lD5
    obtain ⟨m1, m2, m3, m4⟩ := none_is
    have rep : (List.replicate (23 : Int).toNat [V.bl false]).flatten = (List.replicate 23 false).map V.bl := rfl
    refine fun b1 B1 nb1 sb1 ib1 => ⟨b1, "MapError", [], rfl, m3, ib1, fun q1 B2 sb2 lq1 => ⟨(by show 1 ≤ sizeLine; decide), fun y5 hy5 => ?_⟩⟩
    have ly5 : (upd B2 y5 (.lst [.bl false])) y5 = some (.lst [.bl false]) := upd_same
    have s5' := new_same (o := .lst [.bl false]) hy5
    generalize upd B2 y5 (.lst [.bl false]) = B3 at ly5 s5'
    refine ⟨y5, 23, _, rfl, rfl, ly5, by decide, by decide, (by show 1 * 23 ≤ sizeLine; decide), fun y6 hy6 => ?_⟩
    rw [rep]
    have ly6 : (upd B3 y6 (.lst ((List.replicate 23 false).map V.bl))) y6 = some (.lst ((List.replicate 23 false).map V.bl)) := upd_same
    have s6' := new_same (o := .lst ((List.replicate 23 false).map V.bl)) hy6
    generalize upd B3 y6 (.lst ((List.replicate 23 false).map V.bl)) = B4 at ly6 s6'
    refine ⟨dB (List.replicate 23 false), dB (List.replicate 23 false), dpL (by rw [← m1, ← kindsOf_eq]; exact s6' _ _ (s5' _ _ lq1)), dpL ly6, shaped_dB _, shaped_dB _, ?_⟩
    rw [eqv_dB]
    refine ⟨_, rfl, (iteF ?_ : if false = true then _ else _)⟩
    refine fun b2 B5 nb2 sb5 ib2 => ⟨b2, "StateError", [], rfl, m4, ib2, fun q2 B6 sb6 lq2 => ⟨(by show 1 ≤ sizeLine; decide), fun y7 hy7 => ?_⟩⟩
    have ly7 : (upd B6 y7 (.lst [.bl false])) y7 = some (.lst [.bl false]) := upd_same
    have s7' := new_same (o := .lst [.bl false]) hy7
    generalize upd B6 y7 (.lst [.bl false]) = B7 at ly7 s7'
    refine ⟨y7, 23, _, rfl, rfl, ly7, by decide, by decide, (by show 1 * 23 ≤ sizeLine; decide), fun y8 hy8 => ?_⟩
    rw [rep]
    have ly8 : (upd B7 y8 (.lst ((List.replicate 23 false).map V.bl))) y8 = some (.lst ((List.replicate 23 false).map V.bl)) := upd_same
    have s8' := new_same (o := .lst ((List.replicate 23 false).map V.bl)) hy8
    generalize upd B7 y8 (.lst ((List.replicate 23 false).map V.bl)) = B8 at ly8 s8'
    refine ⟨dB (List.replicate 23 false), dB (List.replicate 23 false), dpL (by rw [← m2, ← kindsOf_eq]; exact s8' _ _ (s7' _ _ lq2)), dpL ly8, shaped_dB _, shaped_dB _, ?_⟩
    rw [eqv_dB]
    refine ⟨_, rfl, (iteF ?_ : if false = true then _ else _)⟩
    exact ⟨⟨_, _, _, _, _, _, _, _, _, _, _, _, rfl⟩, smF.trans ((sb1.trans (sb2.trans (s5'.trans s6'))).trans (sb5.trans (sb6.trans (s7'.trans s8'))))⟩
end
end K1
namespace K1
open PySem PySem.Spec PyProof.Rows L2 He XH
def xd (x : Str) (i : Nat) (le : Bool) (q : Str) (fl : List Str) : XDef := ⟨x, le, q, defArgs (inClass (top i) 0), defBody (inClass (top i) 0), defScope (inClass (top i) 0), fl⟩
def xds : List XDef := [xd "InvalidInteger" 3 false "InvalidInteger.__init__" ["value"], xd "InvalidName" 4 false "InvalidName.__init__" ["value"], xd "InvalidPlace" 5 false "InvalidPlace.__init__" ["value"], xd "InvalidPlaces" 6 false "InvalidPlaces.__init__" ["value"],
  xd "InvalidFact" 7 false "InvalidFact.__init__" ["value"], xd "InvalidFacts" 8 false "InvalidFacts.__init__" ["value"], xd "InvalidSetting" 9 false "InvalidSetting.__init__" ["value"], xd "InvalidStep" 10 false "InvalidStep.__init__" ["value"],
  xd "InvalidHand" 11 false "InvalidHand.__init__" ["value"], xd "InvalidProgram" 12 false "InvalidProgram.__init__" ["value"], xd "InvalidWeaving" 13 false "InvalidWeaving.__init__" ["value"], xd "InvalidPattern" 14 false "InvalidPattern.__init__" ["value"],
  xd "InvalidStates" 15 false "InvalidStates.__init__" ["value"], xd "InvalidGuard" 16 false "InvalidGuard.__init__" ["value"], xd "InvalidGuards" 17 false "InvalidGuards.__init__" ["value"], xd "InvalidText" 18 false "InvalidText.__init__" ["value"],
  xd "InvalidLine" 19 false "InvalidLine.__init__" ["index"], xd "InvalidCommand" 20 false "InvalidCommand.__init__" ["value"], xd "Unordered" 21 false "Unordered.__init__" ["left", "right"], xd "NotReady" 22 true "NotReady.__init__" ["hand"],
  xd "NoProgram" 23 true "NoProgram.__init__" [], xd "NothingToUndo" 24 true "NothingToUndo.__init__" [], xd "NoTrial" 25 true "NoTrial.__init__" []]
def exmT (K : PySem.W.Frag) (xs ys : List Str) (f : Str → Str → Bool) : Bool := xs.all fun x => (ys.all fun y => decide (PySem.W.exmOne K (.ref (ga K x)) (.ref (ga K y)) = some (f x y))) && (decide (PySem.W.subIn K (.ref (ga K x)) (.type "BaseException") = some true) && decide (PySem.W.typeIn K (.ref (ga K x)) = some (.type "type")))
def exB (K : PySem.W.Frag) : Bool := kitT K all25 all25 subF && (kitTy K all25 ["ValueError", "LookupError"] subT && (plB K "MapError" "ValueError.__new__" veB && (plB K "StateError" "LookupError.__new__" leB && (exmT K five ["MapError", "StateError"] subF && (K.lookup sysModules).isSome))))
def dD (x : Str) (i : Nat) : DefD := ⟨(x, none), x, x, defArgs (top i), defBody (top i), defScope (top i), [], []⟩
def fn : List DefD := [dD "_law_cell" 27, dD "_law_box" 28, dD "_law_take" 29, dD "_law_made" 30, dD "_law_named" 31, dD "_law_kinds" 32, dD "_law_bases" 33, dD "_law_fields" 34, dD "_law_grown" 35, dD "_law_caught" 36, dD "_law_value" 37, dD "law" 38]
def fa : List Fa := [.glo "_law_cell", .glo "_law_box", .glo "_law_take", .glo "_law_made", .glo "_law_named", .glo "_law_kinds", .glo "_law_bases", .glo "_law_fields", .glo "_law_grown", .glo "_law_caught", .glo "_law_value", .glo "law",
  .free "len", .free "max", .free "min", .free "int", .free "isinstance", .free "range", .free "repr", .free "enumerate", .free "list", .free "tuple", .free "dict", .free "ValueError", .free "LookupError"]
abbrev R : PySem.W.OpenRow := PySem.W.OpenLaw.row PySem.Challenge.rw_mapsizes_k01_exceptions
def file0 : Str := PySem.Challenge.pw_mapsizes_k01_exceptions.main.file
abbrev hk : PySem.W.Hook := hookZ 5 fa fn [] xds exB file0
def ob (s : PySem.W.SharedT) : AlZ := obsZG 5 fa fn [] xds exB file0 (HandSHeadRun.getT s)
theorem ob_eq (s : PySem.W.SharedT) : ob s = hk.obs s.abs := obsZG_eq (HandSHeadRun.getT_eq s)
def loose1 : List PySem.Str := ["MapError", "StateError", "InvalidInteger", "InvalidName", "InvalidPlace", "InvalidPlaces", "InvalidFact", "InvalidFacts", "InvalidSetting", "InvalidStep", "InvalidHand", "InvalidProgram", "InvalidWeaving", "InvalidPattern", "InvalidStates", "InvalidGuard", "InvalidGuards", "InvalidText", "InvalidLine", "InvalidCommand", "Unordered", "NotReady", "NoProgram", "NothingToUndo", "NoTrial"]
def loose2 : List PySem.Str := ["_law_cell", "_law_box", "_law_take", "_law_made", "_law_named", "_law_kinds", "_law_bases", "_law_fields", "_law_grown", "_law_caught", "_law_value"]
theorem run (w : PySem.World) : HandSHeadRun.RunEq R (PySem.W.view R.prog [38]) hk ob 20000 (loose1 ++ loose2) w := by
  intro os
  kernel_rfl
end K1
namespace K1
open PySem PySem.Spec PyProof.Rows L2 He XH EX
section
variable {P : Program} {w : World} {K : PySem.W.Frag} {mg : Str → Option Value} {base : Heap}
theorem xm0 {h : Heap} (X : XFacts P K h (xd "InvalidInteger" 3 false "InvalidInteger.__init__" ["value"])) (G : mg "InvalidInteger" = some (.ref (ga K "InvalidInteger"))) : XM P w K mg base "InvalidInteger" 1 ["value"] (g1 "value") := by
  obtain ⟨fd, D⟩ := X.init
  have c := D.cl
  have i1 := D.iC
  have i2 := D.tI
  obtain ⟨doc, pm, ctv, oc, od, osl, efd, lk⟩ := D.lk
  have hb : ∀ us : List Value, us.length = 2 → bindArgs fd ⟨us, []⟩ = pure ((["self", "value"] : List Str).zip us) := fun us hl => by
    subst efd
    match us, hl with
    | [_, _], _ => rfl
  refine ⟨⟨_, _, _, _, _, fd, ["self", "value"], PySem.F.excBase_ValueError, c, i1, i2, init_one PySem.F.excBase_ValueError PySem.W.kxs_ValueError PySem.F.store_ValueError X.sub D (NdefX.nscope_by (by decide +kernel)) (by rfl) rfl rfl ⟨fun _ _ => ⟨_, rfl⟩, fun _ _ => rfl, fun _ _ => rfl⟩ (fun _ _ _ us hl => match us, hl with | [_, _], _ => rfl) (X.no _ (by decide)) (by decide) (by decide), Binds.all hb, rfl, fun s a ws hw => ?_⟩, G, X.ec, X.no⟩
  subst efd
  match ws, hw with
  | [v], _ => exact BindsTo.of_eq (by rfl)
theorem xm1 {h : Heap} (X : XFacts P K h (xd "InvalidName" 4 false "InvalidName.__init__" ["value"])) (G : mg "InvalidName" = some (.ref (ga K "InvalidName"))) : XM P w K mg base "InvalidName" 1 ["value"] (g1 "value") := by
  obtain ⟨fd, D⟩ := X.init
  have c := D.cl
  have i1 := D.iC
  have i2 := D.tI
  obtain ⟨doc, pm, ctv, oc, od, osl, efd, lk⟩ := D.lk
  have hb : ∀ us : List Value, us.length = 2 → bindArgs fd ⟨us, []⟩ = pure ((["self", "value"] : List Str).zip us) := fun us hl => by
    subst efd
    match us, hl with
    | [_, _], _ => rfl
  refine ⟨⟨_, _, _, _, _, fd, ["self", "value"], PySem.F.excBase_ValueError, c, i1, i2, init_one PySem.F.excBase_ValueError PySem.W.kxs_ValueError PySem.F.store_ValueError X.sub D (NdefX.nscope_by (by decide +kernel)) (by rfl) rfl rfl ⟨fun _ _ => ⟨_, rfl⟩, fun _ _ => rfl, fun _ _ => rfl⟩ (fun _ _ _ us hl => match us, hl with | [_, _], _ => rfl) (X.no _ (by decide)) (by decide) (by decide), Binds.all hb, rfl, fun s a ws hw => ?_⟩, G, X.ec, X.no⟩
  subst efd
  match ws, hw with
  | [v], _ => exact BindsTo.of_eq (by rfl)
theorem xm2 {h : Heap} (X : XFacts P K h (xd "InvalidPlace" 5 false "InvalidPlace.__init__" ["value"])) (G : mg "InvalidPlace" = some (.ref (ga K "InvalidPlace"))) : XM P w K mg base "InvalidPlace" 1 ["value"] (g1 "value") := by
  obtain ⟨fd, D⟩ := X.init
  have c := D.cl
  have i1 := D.iC
  have i2 := D.tI
  obtain ⟨doc, pm, ctv, oc, od, osl, efd, lk⟩ := D.lk
  have hb : ∀ us : List Value, us.length = 2 → bindArgs fd ⟨us, []⟩ = pure ((["self", "value"] : List Str).zip us) := fun us hl => by
    subst efd
    match us, hl with
    | [_, _], _ => rfl
  refine ⟨⟨_, _, _, _, _, fd, ["self", "value"], PySem.F.excBase_ValueError, c, i1, i2, init_one PySem.F.excBase_ValueError PySem.W.kxs_ValueError PySem.F.store_ValueError X.sub D (NdefX.nscope_by (by decide +kernel)) (by rfl) rfl rfl ⟨fun _ _ => ⟨_, rfl⟩, fun _ _ => rfl, fun _ _ => rfl⟩ (fun _ _ _ us hl => match us, hl with | [_, _], _ => rfl) (X.no _ (by decide)) (by decide) (by decide), Binds.all hb, rfl, fun s a ws hw => ?_⟩, G, X.ec, X.no⟩
  subst efd
  match ws, hw with
  | [v], _ => exact BindsTo.of_eq (by rfl)
theorem xm3 {h : Heap} (X : XFacts P K h (xd "InvalidPlaces" 6 false "InvalidPlaces.__init__" ["value"])) (G : mg "InvalidPlaces" = some (.ref (ga K "InvalidPlaces"))) : XM P w K mg base "InvalidPlaces" 1 ["value"] (g1 "value") := by
  obtain ⟨fd, D⟩ := X.init
  have c := D.cl
  have i1 := D.iC
  have i2 := D.tI
  obtain ⟨doc, pm, ctv, oc, od, osl, efd, lk⟩ := D.lk
  have hb : ∀ us : List Value, us.length = 2 → bindArgs fd ⟨us, []⟩ = pure ((["self", "value"] : List Str).zip us) := fun us hl => by
    subst efd
    match us, hl with
    | [_, _], _ => rfl
  refine ⟨⟨_, _, _, _, _, fd, ["self", "value"], PySem.F.excBase_ValueError, c, i1, i2, init_one PySem.F.excBase_ValueError PySem.W.kxs_ValueError PySem.F.store_ValueError X.sub D (NdefX.nscope_by (by decide +kernel)) (by rfl) rfl rfl ⟨fun _ _ => ⟨_, rfl⟩, fun _ _ => rfl, fun _ _ => rfl⟩ (fun _ _ _ us hl => match us, hl with | [_, _], _ => rfl) (X.no _ (by decide)) (by decide) (by decide), Binds.all hb, rfl, fun s a ws hw => ?_⟩, G, X.ec, X.no⟩
  subst efd
  match ws, hw with
  | [v], _ => exact BindsTo.of_eq (by rfl)
theorem xm4 {h : Heap} (X : XFacts P K h (xd "InvalidFact" 7 false "InvalidFact.__init__" ["value"])) (G : mg "InvalidFact" = some (.ref (ga K "InvalidFact"))) : XM P w K mg base "InvalidFact" 1 ["value"] (g1 "value") := by
  obtain ⟨fd, D⟩ := X.init
  have c := D.cl
  have i1 := D.iC
  have i2 := D.tI
  obtain ⟨doc, pm, ctv, oc, od, osl, efd, lk⟩ := D.lk
  have hb : ∀ us : List Value, us.length = 2 → bindArgs fd ⟨us, []⟩ = pure ((["self", "value"] : List Str).zip us) := fun us hl => by
    subst efd
    match us, hl with
    | [_, _], _ => rfl
  refine ⟨⟨_, _, _, _, _, fd, ["self", "value"], PySem.F.excBase_ValueError, c, i1, i2, init_one PySem.F.excBase_ValueError PySem.W.kxs_ValueError PySem.F.store_ValueError X.sub D (NdefX.nscope_by (by decide +kernel)) (by rfl) rfl rfl ⟨fun _ _ => ⟨_, rfl⟩, fun _ _ => rfl, fun _ _ => rfl⟩ (fun _ _ _ us hl => match us, hl with | [_, _], _ => rfl) (X.no _ (by decide)) (by decide) (by decide), Binds.all hb, rfl, fun s a ws hw => ?_⟩, G, X.ec, X.no⟩
  subst efd
  match ws, hw with
  | [v], _ => exact BindsTo.of_eq (by rfl)
theorem xm5 {h : Heap} (X : XFacts P K h (xd "InvalidFacts" 8 false "InvalidFacts.__init__" ["value"])) (G : mg "InvalidFacts" = some (.ref (ga K "InvalidFacts"))) : XM P w K mg base "InvalidFacts" 1 ["value"] (g1 "value") := by
  obtain ⟨fd, D⟩ := X.init
  have c := D.cl
  have i1 := D.iC
  have i2 := D.tI
  obtain ⟨doc, pm, ctv, oc, od, osl, efd, lk⟩ := D.lk
  have hb : ∀ us : List Value, us.length = 2 → bindArgs fd ⟨us, []⟩ = pure ((["self", "value"] : List Str).zip us) := fun us hl => by
    subst efd
    match us, hl with
    | [_, _], _ => rfl
  refine ⟨⟨_, _, _, _, _, fd, ["self", "value"], PySem.F.excBase_ValueError, c, i1, i2, init_one PySem.F.excBase_ValueError PySem.W.kxs_ValueError PySem.F.store_ValueError X.sub D (NdefX.nscope_by (by decide +kernel)) (by rfl) rfl rfl ⟨fun _ _ => ⟨_, rfl⟩, fun _ _ => rfl, fun _ _ => rfl⟩ (fun _ _ _ us hl => match us, hl with | [_, _], _ => rfl) (X.no _ (by decide)) (by decide) (by decide), Binds.all hb, rfl, fun s a ws hw => ?_⟩, G, X.ec, X.no⟩
  subst efd
  match ws, hw with
  | [v], _ => exact BindsTo.of_eq (by rfl)
theorem xm6 {h : Heap} (X : XFacts P K h (xd "InvalidSetting" 9 false "InvalidSetting.__init__" ["value"])) (G : mg "InvalidSetting" = some (.ref (ga K "InvalidSetting"))) : XM P w K mg base "InvalidSetting" 1 ["value"] (g1 "value") := by
  obtain ⟨fd, D⟩ := X.init
  have c := D.cl
  have i1 := D.iC
  have i2 := D.tI
  obtain ⟨doc, pm, ctv, oc, od, osl, efd, lk⟩ := D.lk
  have hb : ∀ us : List Value, us.length = 2 → bindArgs fd ⟨us, []⟩ = pure ((["self", "value"] : List Str).zip us) := fun us hl => by
    subst efd
    match us, hl with
    | [_, _], _ => rfl
  refine ⟨⟨_, _, _, _, _, fd, ["self", "value"], PySem.F.excBase_ValueError, c, i1, i2, init_one PySem.F.excBase_ValueError PySem.W.kxs_ValueError PySem.F.store_ValueError X.sub D (NdefX.nscope_by (by decide +kernel)) (by rfl) rfl rfl ⟨fun _ _ => ⟨_, rfl⟩, fun _ _ => rfl, fun _ _ => rfl⟩ (fun _ _ _ us hl => match us, hl with | [_, _], _ => rfl) (X.no _ (by decide)) (by decide) (by decide), Binds.all hb, rfl, fun s a ws hw => ?_⟩, G, X.ec, X.no⟩
  subst efd
  match ws, hw with
  | [v], _ => exact BindsTo.of_eq (by rfl)
theorem xm7 {h : Heap} (X : XFacts P K h (xd "InvalidStep" 10 false "InvalidStep.__init__" ["value"])) (G : mg "InvalidStep" = some (.ref (ga K "InvalidStep"))) : XM P w K mg base "InvalidStep" 1 ["value"] (g1 "value") := by
  obtain ⟨fd, D⟩ := X.init
  have c := D.cl
  have i1 := D.iC
  have i2 := D.tI
  obtain ⟨doc, pm, ctv, oc, od, osl, efd, lk⟩ := D.lk
  have hb : ∀ us : List Value, us.length = 2 → bindArgs fd ⟨us, []⟩ = pure ((["self", "value"] : List Str).zip us) := fun us hl => by
    subst efd
    match us, hl with
    | [_, _], _ => rfl
  refine ⟨⟨_, _, _, _, _, fd, ["self", "value"], PySem.F.excBase_ValueError, c, i1, i2, init_one PySem.F.excBase_ValueError PySem.W.kxs_ValueError PySem.F.store_ValueError X.sub D (NdefX.nscope_by (by decide +kernel)) (by rfl) rfl rfl ⟨fun _ _ => ⟨_, rfl⟩, fun _ _ => rfl, fun _ _ => rfl⟩ (fun _ _ _ us hl => match us, hl with | [_, _], _ => rfl) (X.no _ (by decide)) (by decide) (by decide), Binds.all hb, rfl, fun s a ws hw => ?_⟩, G, X.ec, X.no⟩
  subst efd
  match ws, hw with
  | [v], _ => exact BindsTo.of_eq (by rfl)
theorem xm8 {h : Heap} (X : XFacts P K h (xd "InvalidHand" 11 false "InvalidHand.__init__" ["value"])) (G : mg "InvalidHand" = some (.ref (ga K "InvalidHand"))) : XM P w K mg base "InvalidHand" 1 ["value"] (g1 "value") := by
  obtain ⟨fd, D⟩ := X.init
  have c := D.cl
  have i1 := D.iC
  have i2 := D.tI
  obtain ⟨doc, pm, ctv, oc, od, osl, efd, lk⟩ := D.lk
  have hb : ∀ us : List Value, us.length = 2 → bindArgs fd ⟨us, []⟩ = pure ((["self", "value"] : List Str).zip us) := fun us hl => by
    subst efd
    match us, hl with
    | [_, _], _ => rfl
  refine ⟨⟨_, _, _, _, _, fd, ["self", "value"], PySem.F.excBase_ValueError, c, i1, i2, init_one PySem.F.excBase_ValueError PySem.W.kxs_ValueError PySem.F.store_ValueError X.sub D (NdefX.nscope_by (by decide +kernel)) (by rfl) rfl rfl ⟨fun _ _ => ⟨_, rfl⟩, fun _ _ => rfl, fun _ _ => rfl⟩ (fun _ _ _ us hl => match us, hl with | [_, _], _ => rfl) (X.no _ (by decide)) (by decide) (by decide), Binds.all hb, rfl, fun s a ws hw => ?_⟩, G, X.ec, X.no⟩
  subst efd
  match ws, hw with
  | [v], _ => exact BindsTo.of_eq (by rfl)
theorem xm9 {h : Heap} (X : XFacts P K h (xd "InvalidProgram" 12 false "InvalidProgram.__init__" ["value"])) (G : mg "InvalidProgram" = some (.ref (ga K "InvalidProgram"))) : XM P w K mg base "InvalidProgram" 1 ["value"] (g1 "value") := by
  obtain ⟨fd, D⟩ := X.init
  have c := D.cl
  have i1 := D.iC
  have i2 := D.tI
  obtain ⟨doc, pm, ctv, oc, od, osl, efd, lk⟩ := D.lk
  have hb : ∀ us : List Value, us.length = 2 → bindArgs fd ⟨us, []⟩ = pure ((["self", "value"] : List Str).zip us) := fun us hl => by
    subst efd
    match us, hl with
    | [_, _], _ => rfl
  refine ⟨⟨_, _, _, _, _, fd, ["self", "value"], PySem.F.excBase_ValueError, c, i1, i2, init_one PySem.F.excBase_ValueError PySem.W.kxs_ValueError PySem.F.store_ValueError X.sub D (NdefX.nscope_by (by decide +kernel)) (by rfl) rfl rfl ⟨fun _ _ => ⟨_, rfl⟩, fun _ _ => rfl, fun _ _ => rfl⟩ (fun _ _ _ us hl => match us, hl with | [_, _], _ => rfl) (X.no _ (by decide)) (by decide) (by decide), Binds.all hb, rfl, fun s a ws hw => ?_⟩, G, X.ec, X.no⟩
  subst efd
  match ws, hw with
  | [v], _ => exact BindsTo.of_eq (by rfl)
theorem xm10 {h : Heap} (X : XFacts P K h (xd "InvalidWeaving" 13 false "InvalidWeaving.__init__" ["value"])) (G : mg "InvalidWeaving" = some (.ref (ga K "InvalidWeaving"))) : XM P w K mg base "InvalidWeaving" 1 ["value"] (g1 "value") := by
  obtain ⟨fd, D⟩ := X.init
  have c := D.cl
  have i1 := D.iC
  have i2 := D.tI
  obtain ⟨doc, pm, ctv, oc, od, osl, efd, lk⟩ := D.lk
  have hb : ∀ us : List Value, us.length = 2 → bindArgs fd ⟨us, []⟩ = pure ((["self", "value"] : List Str).zip us) := fun us hl => by
    subst efd
    match us, hl with
    | [_, _], _ => rfl
  refine ⟨⟨_, _, _, _, _, fd, ["self", "value"], PySem.F.excBase_ValueError, c, i1, i2, init_one PySem.F.excBase_ValueError PySem.W.kxs_ValueError PySem.F.store_ValueError X.sub D (NdefX.nscope_by (by decide +kernel)) (by rfl) rfl rfl ⟨fun _ _ => ⟨_, rfl⟩, fun _ _ => rfl, fun _ _ => rfl⟩ (fun _ _ _ us hl => match us, hl with | [_, _], _ => rfl) (X.no _ (by decide)) (by decide) (by decide), Binds.all hb, rfl, fun s a ws hw => ?_⟩, G, X.ec, X.no⟩
  subst efd
  match ws, hw with
  | [v], _ => exact BindsTo.of_eq (by rfl)
theorem xm11 {h : Heap} (X : XFacts P K h (xd "InvalidPattern" 14 false "InvalidPattern.__init__" ["value"])) (G : mg "InvalidPattern" = some (.ref (ga K "InvalidPattern"))) : XM P w K mg base "InvalidPattern" 1 ["value"] (g1 "value") := by
  obtain ⟨fd, D⟩ := X.init
  have c := D.cl
  have i1 := D.iC
  have i2 := D.tI
  obtain ⟨doc, pm, ctv, oc, od, osl, efd, lk⟩ := D.lk
  have hb : ∀ us : List Value, us.length = 2 → bindArgs fd ⟨us, []⟩ = pure ((["self", "value"] : List Str).zip us) := fun us hl => by
    subst efd
    match us, hl with
    | [_, _], _ => rfl
  refine ⟨⟨_, _, _, _, _, fd, ["self", "value"], PySem.F.excBase_ValueError, c, i1, i2, init_one PySem.F.excBase_ValueError PySem.W.kxs_ValueError PySem.F.store_ValueError X.sub D (NdefX.nscope_by (by decide +kernel)) (by rfl) rfl rfl ⟨fun _ _ => ⟨_, rfl⟩, fun _ _ => rfl, fun _ _ => rfl⟩ (fun _ _ _ us hl => match us, hl with | [_, _], _ => rfl) (X.no _ (by decide)) (by decide) (by decide), Binds.all hb, rfl, fun s a ws hw => ?_⟩, G, X.ec, X.no⟩
  subst efd
  match ws, hw with
  | [v], _ => exact BindsTo.of_eq (by rfl)
theorem xm12 {h : Heap} (X : XFacts P K h (xd "InvalidStates" 15 false "InvalidStates.__init__" ["value"])) (G : mg "InvalidStates" = some (.ref (ga K "InvalidStates"))) : XM P w K mg base "InvalidStates" 1 ["value"] (g1 "value") := by
  obtain ⟨fd, D⟩ := X.init
  have c := D.cl
  have i1 := D.iC
  have i2 := D.tI
  obtain ⟨doc, pm, ctv, oc, od, osl, efd, lk⟩ := D.lk
  have hb : ∀ us : List Value, us.length = 2 → bindArgs fd ⟨us, []⟩ = pure ((["self", "value"] : List Str).zip us) := fun us hl => by
    subst efd
    match us, hl with
    | [_, _], _ => rfl
  refine ⟨⟨_, _, _, _, _, fd, ["self", "value"], PySem.F.excBase_ValueError, c, i1, i2, init_one PySem.F.excBase_ValueError PySem.W.kxs_ValueError PySem.F.store_ValueError X.sub D (NdefX.nscope_by (by decide +kernel)) (by rfl) rfl rfl ⟨fun _ _ => ⟨_, rfl⟩, fun _ _ => rfl, fun _ _ => rfl⟩ (fun _ _ _ us hl => match us, hl with | [_, _], _ => rfl) (X.no _ (by decide)) (by decide) (by decide), Binds.all hb, rfl, fun s a ws hw => ?_⟩, G, X.ec, X.no⟩
  subst efd
  match ws, hw with
  | [v], _ => exact BindsTo.of_eq (by rfl)
theorem xm13 {h : Heap} (X : XFacts P K h (xd "InvalidGuard" 16 false "InvalidGuard.__init__" ["value"])) (G : mg "InvalidGuard" = some (.ref (ga K "InvalidGuard"))) : XM P w K mg base "InvalidGuard" 1 ["value"] (g1 "value") := by
  obtain ⟨fd, D⟩ := X.init
  have c := D.cl
  have i1 := D.iC
  have i2 := D.tI
  obtain ⟨doc, pm, ctv, oc, od, osl, efd, lk⟩ := D.lk
  have hb : ∀ us : List Value, us.length = 2 → bindArgs fd ⟨us, []⟩ = pure ((["self", "value"] : List Str).zip us) := fun us hl => by
    subst efd
    match us, hl with
    | [_, _], _ => rfl
  refine ⟨⟨_, _, _, _, _, fd, ["self", "value"], PySem.F.excBase_ValueError, c, i1, i2, init_one PySem.F.excBase_ValueError PySem.W.kxs_ValueError PySem.F.store_ValueError X.sub D (NdefX.nscope_by (by decide +kernel)) (by rfl) rfl rfl ⟨fun _ _ => ⟨_, rfl⟩, fun _ _ => rfl, fun _ _ => rfl⟩ (fun _ _ _ us hl => match us, hl with | [_, _], _ => rfl) (X.no _ (by decide)) (by decide) (by decide), Binds.all hb, rfl, fun s a ws hw => ?_⟩, G, X.ec, X.no⟩
  subst efd
  match ws, hw with
  | [v], _ => exact BindsTo.of_eq (by rfl)
theorem xm14 {h : Heap} (X : XFacts P K h (xd "InvalidGuards" 17 false "InvalidGuards.__init__" ["value"])) (G : mg "InvalidGuards" = some (.ref (ga K "InvalidGuards"))) : XM P w K mg base "InvalidGuards" 1 ["value"] (g1 "value") := by
  obtain ⟨fd, D⟩ := X.init
  have c := D.cl
  have i1 := D.iC
  have i2 := D.tI
  obtain ⟨doc, pm, ctv, oc, od, osl, efd, lk⟩ := D.lk
  have hb : ∀ us : List Value, us.length = 2 → bindArgs fd ⟨us, []⟩ = pure ((["self", "value"] : List Str).zip us) := fun us hl => by
    subst efd
    match us, hl with
    | [_, _], _ => rfl
  refine ⟨⟨_, _, _, _, _, fd, ["self", "value"], PySem.F.excBase_ValueError, c, i1, i2, init_one PySem.F.excBase_ValueError PySem.W.kxs_ValueError PySem.F.store_ValueError X.sub D (NdefX.nscope_by (by decide +kernel)) (by rfl) rfl rfl ⟨fun _ _ => ⟨_, rfl⟩, fun _ _ => rfl, fun _ _ => rfl⟩ (fun _ _ _ us hl => match us, hl with | [_, _], _ => rfl) (X.no _ (by decide)) (by decide) (by decide), Binds.all hb, rfl, fun s a ws hw => ?_⟩, G, X.ec, X.no⟩
  subst efd
  match ws, hw with
  | [v], _ => exact BindsTo.of_eq (by rfl)
theorem xm15 {h : Heap} (X : XFacts P K h (xd "InvalidText" 18 false "InvalidText.__init__" ["value"])) (G : mg "InvalidText" = some (.ref (ga K "InvalidText"))) : XM P w K mg base "InvalidText" 1 ["value"] (g1 "value") := by
  obtain ⟨fd, D⟩ := X.init
  have c := D.cl
  have i1 := D.iC
  have i2 := D.tI
  obtain ⟨doc, pm, ctv, oc, od, osl, efd, lk⟩ := D.lk
  have hb : ∀ us : List Value, us.length = 2 → bindArgs fd ⟨us, []⟩ = pure ((["self", "value"] : List Str).zip us) := fun us hl => by
    subst efd
    match us, hl with
    | [_, _], _ => rfl
  refine ⟨⟨_, _, _, _, _, fd, ["self", "value"], PySem.F.excBase_ValueError, c, i1, i2, init_one PySem.F.excBase_ValueError PySem.W.kxs_ValueError PySem.F.store_ValueError X.sub D (NdefX.nscope_by (by decide +kernel)) (by rfl) rfl rfl ⟨fun _ _ => ⟨_, rfl⟩, fun _ _ => rfl, fun _ _ => rfl⟩ (fun _ _ _ us hl => match us, hl with | [_, _], _ => rfl) (X.no _ (by decide)) (by decide) (by decide), Binds.all hb, rfl, fun s a ws hw => ?_⟩, G, X.ec, X.no⟩
  subst efd
  match ws, hw with
  | [v], _ => exact BindsTo.of_eq (by rfl)
theorem xm16 {h : Heap} (X : XFacts P K h (xd "InvalidLine" 19 false "InvalidLine.__init__" ["index"])) (G : mg "InvalidLine" = some (.ref (ga K "InvalidLine"))) : XM P w K mg base "InvalidLine" 1 ["index"] (g1 "index") := by
  obtain ⟨fd, D⟩ := X.init
  have c := D.cl
  have i1 := D.iC
  have i2 := D.tI
  obtain ⟨doc, pm, ctv, oc, od, osl, efd, lk⟩ := D.lk
  have hb : ∀ us : List Value, us.length = 2 → bindArgs fd ⟨us, []⟩ = pure ((["self", "index"] : List Str).zip us) := fun us hl => by
    subst efd
    match us, hl with
    | [_, _], _ => rfl
  refine ⟨⟨_, _, _, _, _, fd, ["self", "index"], PySem.F.excBase_ValueError, c, i1, i2, init_one PySem.F.excBase_ValueError PySem.W.kxs_ValueError PySem.F.store_ValueError X.sub D (NdefX.nscope_by (by decide +kernel)) (by rfl) rfl rfl ⟨fun _ _ => ⟨_, rfl⟩, fun _ _ => rfl, fun _ _ => rfl⟩ (fun _ _ _ us hl => match us, hl with | [_, _], _ => rfl) (X.no _ (by decide)) (by decide) (by decide), Binds.all hb, rfl, fun s a ws hw => ?_⟩, G, X.ec, X.no⟩
  subst efd
  match ws, hw with
  | [v], _ => exact BindsTo.of_eq (by rfl)
theorem xm17 {h : Heap} (X : XFacts P K h (xd "InvalidCommand" 20 false "InvalidCommand.__init__" ["value"])) (G : mg "InvalidCommand" = some (.ref (ga K "InvalidCommand"))) : XM P w K mg base "InvalidCommand" 1 ["value"] (g1 "value") := by
  obtain ⟨fd, D⟩ := X.init
  have c := D.cl
  have i1 := D.iC
  have i2 := D.tI
  obtain ⟨doc, pm, ctv, oc, od, osl, efd, lk⟩ := D.lk
  have hb : ∀ us : List Value, us.length = 2 → bindArgs fd ⟨us, []⟩ = pure ((["self", "value"] : List Str).zip us) := fun us hl => by
    subst efd
    match us, hl with
    | [_, _], _ => rfl
  refine ⟨⟨_, _, _, _, _, fd, ["self", "value"], PySem.F.excBase_ValueError, c, i1, i2, init_one PySem.F.excBase_ValueError PySem.W.kxs_ValueError PySem.F.store_ValueError X.sub D (NdefX.nscope_by (by decide +kernel)) (by rfl) rfl rfl ⟨fun _ _ => ⟨_, rfl⟩, fun _ _ => rfl, fun _ _ => rfl⟩ (fun _ _ _ us hl => match us, hl with | [_, _], _ => rfl) (X.no _ (by decide)) (by decide) (by decide), Binds.all hb, rfl, fun s a ws hw => ?_⟩, G, X.ec, X.no⟩
  subst efd
  match ws, hw with
  | [v], _ => exact BindsTo.of_eq (by rfl)
theorem xm18 {h : Heap} (X : XFacts P K h (xd "Unordered" 21 false "Unordered.__init__" ["left", "right"])) (G : mg "Unordered" = some (.ref (ga K "Unordered"))) : XM P w K mg base "Unordered" 2 ["left", "right"] (g2 "left" "right") := by
  obtain ⟨fd, D⟩ := X.init
  have c := D.cl
  have i1 := D.iC
  have i2 := D.tI
  obtain ⟨doc, pm, ctv, oc, od, osl, efd, lk⟩ := D.lk
  have hb : ∀ us : List Value, us.length = 3 → bindArgs fd ⟨us, []⟩ = pure ((["self", "left", "right"] : List Str).zip us) := fun us hl => by
    subst efd
    match us, hl with
    | [_, _, _], _ => rfl
  refine ⟨⟨_, _, _, _, _, fd, ["self", "left", "right"], PySem.F.excBase_ValueError, c, i1, i2, init_two PySem.F.excBase_ValueError PySem.W.kxs_ValueError PySem.F.store_ValueError X.sub D (NdefX.nscope_by (by decide +kernel)) (by rfl) rfl rfl ⟨fun _ _ => ⟨_, rfl⟩, fun _ _ => rfl, fun _ _ => rfl⟩ (fun _ _ _ us hl => match us, hl with | [_, _, _], _ => rfl) (X.no _ (by decide)) (X.no _ (by decide)) (by decide) (by decide) (by decide) (by decide), Binds.all hb, rfl, fun s a ws hw => ?_⟩, G, X.ec, X.no⟩
  subst efd
  match ws, hw with
  | [v, u], _ => exact BindsTo.of_eq (by rfl)
theorem xm19 {h : Heap} (X : XFacts P K h (xd "NotReady" 22 true "NotReady.__init__" ["hand"])) (G : mg "NotReady" = some (.ref (ga K "NotReady"))) : XM P w K mg base "NotReady" 1 ["hand"] (g1 "hand") := by
  obtain ⟨fd, D⟩ := X.init
  have c := D.cl
  have i1 := D.iC
  have i2 := D.tI
  obtain ⟨doc, pm, ctv, oc, od, osl, efd, lk⟩ := D.lk
  have hb : ∀ us : List Value, us.length = 2 → bindArgs fd ⟨us, []⟩ = pure ((["self", "hand"] : List Str).zip us) := fun us hl => by
    subst efd
    match us, hl with
    | [_, _], _ => rfl
  refine ⟨⟨_, _, _, _, _, fd, ["self", "hand"], PySem.F.excBase_LookupError, c, i1, i2, init_one PySem.F.excBase_LookupError PySem.W.kxs_LookupError PySem.F.store_LookupError X.sub D (NdefX.nscope_by (by decide +kernel)) (by rfl) rfl rfl ⟨fun _ _ => ⟨_, rfl⟩, fun _ _ => rfl, fun _ _ => rfl⟩ (fun _ _ _ us hl => match us, hl with | [_, _], _ => rfl) (X.no _ (by decide)) (by decide) (by decide), Binds.all hb, rfl, fun s a ws hw => ?_⟩, G, X.ec, X.no⟩
  subst efd
  match ws, hw with
  | [v], _ => exact BindsTo.of_eq (by rfl)
theorem xm20 {h : Heap} (X : XFacts P K h (xd "NoProgram" 23 true "NoProgram.__init__" [])) (G : mg "NoProgram" = some (.ref (ga K "NoProgram"))) : XM P w K mg base "NoProgram" 0 [] g0 := by
  obtain ⟨fd, D⟩ := X.init
  have c := D.cl
  have i1 := D.iC
  have i2 := D.tI
  obtain ⟨doc, pm, ctv, oc, od, osl, efd, lk⟩ := D.lk
  have hb : ∀ us : List Value, us.length = 1 → bindArgs fd ⟨us, []⟩ = pure ((["self"] : List Str).zip us) := fun us hl => by
    subst efd
    match us, hl with
    | [_], _ => rfl
  refine ⟨⟨_, _, _, _, _, fd, ["self"], PySem.F.excBase_LookupError, c, i1, i2, init_zero PySem.F.excBase_LookupError PySem.W.kxs_LookupError X.sub D (NdefX.nscope_by (by decide +kernel)) (by rfl) rfl rfl ⟨fun _ _ => ⟨_, rfl⟩, fun _ _ => rfl, fun _ _ => rfl⟩ (fun _ _ _ us hl => match us, hl with | [_], _ => rfl), Binds.all hb, rfl, fun s a ws hw => ?_⟩, G, X.ec, X.no⟩
  match ws, hw with
  | [], _ => exact BindsTo.of_eq (hb [.ref a] rfl)
theorem xm21 {h : Heap} (X : XFacts P K h (xd "NothingToUndo" 24 true "NothingToUndo.__init__" [])) (G : mg "NothingToUndo" = some (.ref (ga K "NothingToUndo"))) : XM P w K mg base "NothingToUndo" 0 [] g0 := by
  obtain ⟨fd, D⟩ := X.init
  have c := D.cl
  have i1 := D.iC
  have i2 := D.tI
  obtain ⟨doc, pm, ctv, oc, od, osl, efd, lk⟩ := D.lk
  have hb : ∀ us : List Value, us.length = 1 → bindArgs fd ⟨us, []⟩ = pure ((["self"] : List Str).zip us) := fun us hl => by
    subst efd
    match us, hl with
    | [_], _ => rfl
  refine ⟨⟨_, _, _, _, _, fd, ["self"], PySem.F.excBase_LookupError, c, i1, i2, init_zero PySem.F.excBase_LookupError PySem.W.kxs_LookupError X.sub D (NdefX.nscope_by (by decide +kernel)) (by rfl) rfl rfl ⟨fun _ _ => ⟨_, rfl⟩, fun _ _ => rfl, fun _ _ => rfl⟩ (fun _ _ _ us hl => match us, hl with | [_], _ => rfl), Binds.all hb, rfl, fun s a ws hw => ?_⟩, G, X.ec, X.no⟩
  match ws, hw with
  | [], _ => exact BindsTo.of_eq (hb [.ref a] rfl)
theorem xm22 {h : Heap} (X : XFacts P K h (xd "NoTrial" 25 true "NoTrial.__init__" [])) (G : mg "NoTrial" = some (.ref (ga K "NoTrial"))) : XM P w K mg base "NoTrial" 0 [] g0 := by
  obtain ⟨fd, D⟩ := X.init
  have c := D.cl
  have i1 := D.iC
  have i2 := D.tI
  obtain ⟨doc, pm, ctv, oc, od, osl, efd, lk⟩ := D.lk
  have hb : ∀ us : List Value, us.length = 1 → bindArgs fd ⟨us, []⟩ = pure ((["self"] : List Str).zip us) := fun us hl => by
    subst efd
    match us, hl with
    | [_], _ => rfl
  refine ⟨⟨_, _, _, _, _, fd, ["self"], PySem.F.excBase_LookupError, c, i1, i2, init_zero PySem.F.excBase_LookupError PySem.W.kxs_LookupError X.sub D (NdefX.nscope_by (by decide +kernel)) (by rfl) rfl rfl ⟨fun _ _ => ⟨_, rfl⟩, fun _ _ => rfl, fun _ _ => rfl⟩ (fun _ _ _ us hl => match us, hl with | [_], _ => rfl), Binds.all hb, rfl, fun s a ws hw => ?_⟩, G, X.ec, X.no⟩
  match ws, hw with
  | [], _ => exact BindsTo.of_eq (hb [.ref a] rfl)
end
end K1
namespace K1
open PySem PySem.Spec PyProof.Rows L2 He XH EX RP
abbrev PR : Program := PySem.Challenge.rw_mapsizes_k01_exceptions.prog
theorem nosup : (PR.main.scope.names.lookup ("super" : Str)).isSome = false := by kernel_rfl
theorem says_all {w : World} {K : PySem.W.Frag} {h : Heap} (c : SaysZ fa fn [] xds exB PR.main.file w K) : ∀ d ∈ xds, XFacts PR K h d := fun d hd => by
  obtain ⟨i, hi, e⟩ := List.mem_iff_getElem.mp hd
  exact c.x nosup i (by rw [List.getElem?_eq_getElem hi, e])
theorem xds_names : xds.map (·.cls) = names23 := by decide +kernel
theorem plB_ok {K : PySem.W.Frag} {x : Str} {newId : String} {bmB : List Value} (h : plB K x newId bmB = true) : PySem.W.excIn K (ga K x) bmB newId = true ∧ PySem.W.keepIn K (.ref (ga K x)) = true ∧ ExcC K (ga K x) ∧ PySem.W.nsIn K mainGlobals x = some (some (.ref (ga K x))) := by
  obtain ⟨h1, h⟩ := ba h
  obtain ⟨h2, h⟩ := ba h
  obtain ⟨h3, h⟩ := ba h
  obtain ⟨h4, h5⟩ := ba h
  exact ⟨h1, h2, ecB_ok h3, eqO_ok h5⟩
theorem exmT_ok {K : PySem.W.Frag} {xs ys : List Str} {f : Str → Str → Bool} (h : exmT K xs ys f = true) {x : Str} (hx : x ∈ xs) :
    (∀ {y : Str}, y ∈ ys → PySem.W.exmOne K (.ref (ga K x)) (.ref (ga K y)) = some (f x y)) ∧ PySem.W.subIn K (.ref (ga K x)) (.type "BaseException") = some true ∧ PySem.W.typeIn K (.ref (ga K x)) = some (.type "type") := by
  obtain ⟨h1, h⟩ := ba (List.all_eq_true.mp h x hx)
  obtain ⟨h2, h3⟩ := ba h
  exact ⟨fun hy => of_decide_eq_true (List.all_eq_true.mp h1 _ hy), of_decide_eq_true h2, of_decide_eq_true h3⟩
theorem df_of {P : Program} {w : World} {K : PySem.W.Frag} {mg : Str → Option Value} {base : Heap} {x qual : Str} {params : Arguments} {body : List Stmt} {scope : Scope} {f : Addr} {fd : FuncData} {k : Nat} {ps : List Str} {sp : Sp} (F : FunD K x qual params body scope [] [] f fd) (ok : FnOk P w K mg base CX0 k f fd ps sp) (g : mg x = some (.ref f))
    (hb : ∀ (kV doc pm : Value) (an : Option Addr) (cdv ct : Value) (us : List Value), us.length = ps.length → bindArgs (PySem.W.fnOf x qual params body scope .none kV doc pm an cdv ct) ⟨us, []⟩ = pure (ps.zip us)) : Df P w K mg base x k ps sp :=
  ⟨f, fd, ok, g, F.kp, fun s us _ hl => by
    rw [List.append_nil] at hl ⊢
    exact F.bindsA hb s us hl⟩
theorem facts {w : World} {K : PySem.W.Frag} {h : Heap} {mg : Str → Option Value} {f : Addr} (X : K.In h) (G : h.Ns mainGlobals mg) (hfa : mg ("law" : Str) = some (.ref f)) (c : SaysZ fa fn [] xds exB PR.main.file w K) :
    ∃ fd : FuncData, (∀ (s : Shared) (v : Value), BindsTo s fd ⟨[v], []⟩ [("_law_script", v)]) ∧ ∀ base : Heap, K.In base → base.Ns mainGlobals mg → TopOk PR w K mg base f fd ["_law_script"] (spLaw K) := by
  have cd := c.tt.d
  obtain ⟨fd0, F0⟩ := cd.def_ 0 (d := dD "_law_cell" 27) rfl
  obtain ⟨fd1, F1⟩ := cd.def_ 1 (d := dD "_law_box" 28) rfl
  obtain ⟨fd2, F2⟩ := cd.def_ 2 (d := dD "_law_take" 29) rfl
  obtain ⟨fd3, F3⟩ := cd.def_ 3 (d := dD "_law_made" 30) rfl
  obtain ⟨fd4, F4⟩ := cd.def_ 4 (d := dD "_law_named" 31) rfl
  obtain ⟨fd5, F5⟩ := cd.def_ 5 (d := dD "_law_kinds" 32) rfl
  obtain ⟨fd6, F6⟩ := cd.def_ 6 (d := dD "_law_bases" 33) rfl
  obtain ⟨fd7, F7⟩ := cd.def_ 7 (d := dD "_law_fields" 34) rfl
  obtain ⟨fd8, F8⟩ := cd.def_ 8 (d := dD "_law_grown" 35) rfl
  obtain ⟨fd9, F9⟩ := cd.def_ 9 (d := dD "_law_caught" 36) rfl
  obtain ⟨fd10, F10⟩ := cd.def_ 10 (d := dD "_law_value" 37) rfl
  obtain ⟨fd11, F11⟩ := cd.def_ 11 (d := dD "law" 38) rfl
  have g0 := glo_ok X G (cd.fact 0 (f := .glo "_law_cell") rfl)
  have g1 := glo_ok X G (cd.fact 1 (f := .glo "_law_box") rfl)
  have g2 := glo_ok X G (cd.fact 2 (f := .glo "_law_take") rfl)
  have g3 := glo_ok X G (cd.fact 3 (f := .glo "_law_made") rfl)
  have g4 := glo_ok X G (cd.fact 4 (f := .glo "_law_named") rfl)
  have g5 := glo_ok X G (cd.fact 5 (f := .glo "_law_kinds") rfl)
  have g6 := glo_ok X G (cd.fact 6 (f := .glo "_law_bases") rfl)
  have g7 := glo_ok X G (cd.fact 7 (f := .glo "_law_fields") rfl)
  have g8 := glo_ok X G (cd.fact 8 (f := .glo "_law_grown") rfl)
  have g9 := glo_ok X G (cd.fact 9 (f := .glo "_law_caught") rfl)
  have g10 := glo_ok X G (cd.fact 10 (f := .glo "_law_value") rfl)
  have e := hfa.symm.trans (glo_ok X G (cd.fact 11 (f := .glo "law") rfl))
  cases e
  have nLen := free_ok X G (cd.fact 12 (f := .free "len") rfl)
  have nMax := free_ok X G (cd.fact 13 (f := .free "max") rfl)
  have nMin := free_ok X G (cd.fact 14 (f := .free "min") rfl)
  have nInt := free_ok X G (cd.fact 15 (f := .free "int") rfl)
  have nIsi := free_ok X G (cd.fact 16 (f := .free "isinstance") rfl)
  have nRan := free_ok X G (cd.fact 17 (f := .free "range") rfl)
  have nRep := free_ok X G (cd.fact 18 (f := .free "repr") rfl)
  have nEnu := free_ok X G (cd.fact 19 (f := .free "enumerate") rfl)
  have nLst := free_ok X G (cd.fact 20 (f := .free "list") rfl)
  have nTup := free_ok X G (cd.fact 21 (f := .free "tuple") rfl)
  have nDic := free_ok X G (cd.fact 22 (f := .free "dict") rfl)
  have nVal := free_ok X G (cd.fact 23 (f := .free "ValueError") rfl)
  have nLoo := free_ok X G (cd.fact 24 (f := .free "LookupError") rfl)
  obtain ⟨b1, b⟩ := ba c.more
  obtain ⟨b2, b⟩ := ba b
  obtain ⟨b3, b⟩ := ba b
  obtain ⟨b4, b⟩ := ba b
  obtain ⟨b5, b6⟩ := ba b
  obtain ⟨m1, m2, m3, m4⟩ := plB_ok b3
  obtain ⟨s1, s2, s3, s4⟩ := plB_ok b4
  have all := says_all (h := h) c
  have cls : ∀ {x : Str}, x ∈ all25 → PySem.W.nsIn K mainGlobals x = some (some (.ref (ga K x))) ∧ ExcC K (ga K x) := fun {x} hx => by
    rcases List.mem_append.mp hx with z | z
    · rw [← xds_names] at z
      obtain ⟨d, hd, rfl⟩ := List.mem_map.mp z
      exact ⟨(all d hd).glo, (all d hd).ec⟩
    · rcases List.mem_cons.mp z with z | z
      · rw [z]
        exact ⟨m4, m3⟩
      · rw [List.mem_singleton.mp z]
        exact ⟨s4, s3⟩
  have glo : ∀ {x : Str}, x ∈ all25 → mg x = some (.ref (ga K x)) := fun hx => PySem.W.mg_of X G (cls hx).1
  have tk : TK K mg := ⟨nIsi, nVal, nLoo, glo, fun hx => (cls hx).2, fun hx hy => kitT_ok b1 hx hy, fun hx hy => kitTy_ok b2 hx hy⟩
  have tb : TBox mg := ⟨nLen, nMax, nInt⟩
  refine ⟨fd11, fun s v => F11.bindsA (ps := ["_law_script"]) (fun _ _ _ _ _ _ us hl => match us, hl with | [_], _ => rfl) s [v] rfl, fun base _ _ => ?_⟩
  have mk : ∀ {i : Nat} {d : XDef}, xds[i]? = some d → XFacts PR K h d := fun hd => all _ (List.mem_of_getElem? hd)
  have tx : TX PR w K mg base := ⟨xm0 (mk (i := 0) rfl) (glo (by decide +kernel)), xm1 (mk (i := 1) rfl) (glo (by decide +kernel)), xm2 (mk (i := 2) rfl) (glo (by decide +kernel)), xm3 (mk (i := 3) rfl) (glo (by decide +kernel)), xm4 (mk (i := 4) rfl) (glo (by decide +kernel)), xm5 (mk (i := 5) rfl) (glo (by decide +kernel)),
    xm6 (mk (i := 6) rfl) (glo (by decide +kernel)), xm7 (mk (i := 7) rfl) (glo (by decide +kernel)), xm8 (mk (i := 8) rfl) (glo (by decide +kernel)), xm9 (mk (i := 9) rfl) (glo (by decide +kernel)), xm10 (mk (i := 10) rfl) (glo (by decide +kernel)), xm11 (mk (i := 11) rfl) (glo (by decide +kernel)),
    xm12 (mk (i := 12) rfl) (glo (by decide +kernel)), xm13 (mk (i := 13) rfl) (glo (by decide +kernel)), xm14 (mk (i := 14) rfl) (glo (by decide +kernel)), xm15 (mk (i := 15) rfl) (glo (by decide +kernel)), xm16 (mk (i := 16) rfl) (glo (by decide +kernel)), xm17 (mk (i := 17) rfl) (glo (by decide +kernel)),
    xm18 (mk (i := 18) rfl) (glo (by decide +kernel)), xm19 (mk (i := 19) rfl) (glo (by decide +kernel)), xm20 (mk (i := 20) rfl) (glo (by decide +kernel)), xm21 (mk (i := 21) rfl) (glo (by decide +kernel)), xm22 (mk (i := 22) rfl) (glo (by decide +kernel))⟩
  have bb : ∀ (s : Shared) (us : List Value), us.length = 1 → BindsTo s fd6 ⟨us, []⟩ ((["_law_e"] : List Str).zip us) := fun s us hl => F6.bindsA (ps := ["_law_e"]) (fun _ _ _ _ _ _ us hl => match us, hl with | [_], _ => rfl) s us hl
  have c9 : TC9 PR w K mg base := ⟨⟨_, fd6, fun p x d hx hz hf => ok_basesU F6 tk hx hz hf, g6, F6.kp, fun s us _ hl => by
      rw [List.append_nil] at hl ⊢
      exact bb s us hl⟩, glo, m1, s1, m2, s2, fun hx hy => (exmT_ok b5 hx).1 hy, fun hx => (exmT_ok b5 hx).2.1, fun hx => (exmT_ok b5 hx).2.2⟩
  have dT : Df PR w K mg base "_law_take" 1 ["_law_box_here", "_law_many"] spTake := df_of F2 (ok_take F2 tb) g2 fun _ _ _ _ _ _ us hl => match us, hl with | [_, _], _ => rfl
  have tl : TL PR w K mg base :=
    { cell := df_of F0 (ok_cell F0 tb) g0 fun _ _ _ _ _ _ us hl => match us, hl with | [_, _], _ => rfl
      box := df_of F1 (ok_box F1 tb) g1 fun _ _ _ _ _ _ us hl => match us, hl with | [_], _ => rfl
      value := df_of F10 (ok_value F10 ⟨dT, nRan⟩) g10 fun _ _ _ _ _ _ us hl => match us, hl with | [_], _ => rfl
      made := df_of F3 (ok_made F3 tx) g3 fun _ _ _ _ _ _ us hl => match us, hl with | [_], _ => rfl
      named := df_of F4 (ok_named F4 tx) g4 fun _ _ _ _ _ _ us hl => match us, hl with | [_], _ => rfl
      kinds := df_of F5 (ok_kinds F5 tk) g5 fun _ _ _ _ _ _ us hl => match us, hl with | [_], _ => rfl
      bases := df_of F6 (ok_bases F6 tk) g6 fun _ _ _ _ _ _ us hl => match us, hl with | [_], _ => rfl
      fields := df_of F7 (ok_fields F7 tx) g7 fun _ _ _ _ _ _ us hl => match us, hl with | [_], _ => rfl
      grown := df_of F8 (ok_grown F8 ⟨nIsi, nLen, nLst, nTup, nDic⟩) g8 fun _ _ _ _ _ _ us hl => match us, hl with | [_], _ => rfl
      caught := df_of F9 (ok_caught F9 tx c9) g9 fun _ _ _ _ _ _ us hl => match us, hl with | [_, _], _ => rfl
      xs := tx
      c9 := c9
      range := nRan
      max := nMax
      min := nMin
      len := nLen
      enum := nEnu
      repr := nRep
      sys := Option.isSome_iff_exists.mp b6 }
  exact ok_law F11 tl
end K1
open PySem PySem.W PySem.Calls PyProof.Rows
theorem PySem.Challenge.cw_mapsizes_k01_exceptions_holds : PySem.Challenge.rw_mapsizes_k01_exceptions.Holds := by
  w_on; o_law
  refine HandSHeadRun.head_any (r := OpenLaw.row PySem.Challenge.rw_mapsizes_k01_exceptions) (q := view (OpenLaw.row PySem.Challenge.rw_mapsizes_k01_exceptions).prog [38]) (H := K1.hk) (ob := K1.ob) (M := 20000) (loose := K1.loose1 ++ K1.loose2) (d := HandSHeadRun.topDef (OpenLaw.row PySem.Challenge.rw_mapsizes_k01_exceptions).prog 38) (kwd := []) K1.ob_eq
    (by kernel_rfl) (fun s => by kernel_rfl) K1.run (by kernel_rfl) (by kernel_rfl) (by kernel_rfl) (by rfl) (by first | assumption | decide +kernel) (by decide +kernel) ⟨rfl, rfl, rfl, rfl, rfl, by decide +kernel⟩ ?hw ?hc
  case hw => w_witness2
  case hc =>
    refine EX.walk_top (l := PySem.Challenge.rw_mapsizes_k01_exceptions) (n := 63) (x := "_law_script") rfl (by decide) (by kernel_rfl) ?F
    intro w mg fa h Y G hmg0
    obtain ⟨K, KX, c⟩ := Y
    have hmg : mg ("law" : PySem.Str) = some (.ref fa) := by
      have e : (HandSHeadRun.topDef (OpenLaw.row PySem.Challenge.rw_mapsizes_k01_exceptions).prog 38).name = ("law" : PySem.Str) := by kernel_rfl
      rw [← e]
      exact hmg0
    obtain ⟨fd, hb, hF⟩ := K1.facts KX G hmg c
    exact ⟨K, fd, K1.spLaw K, KX, hb, fun H a ns hl _ hS => ⟨a, ns, rfl, hS, fun _ => rfl⟩, hF⟩
