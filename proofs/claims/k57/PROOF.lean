import PyProof.Rows.All
import Wide.All
import OpenK.AllK
import Wide.FinOn
import KE.KExcInit
import KE.KExcIs
import KE.KExcSuper
import KE.KSuper
import HandS.Exc
import HandS.ExcInit
import HandS.Nested
import HandS.Defaults
import HandS.ExcField
import HandS.IsInst
import HandS.HeadHook2
import HandS.ForMost
import HandS.Zip
import HandS.Walk
import HandS.Lambda
import HandS.Head0
import HandS.Head1
import HandS.Head2
import HandS.HeadEnd
import HandS.HeadHook1
import HandS.HeadHook3
import HandS.HeadHook4
import HandS.HotCalls
import PySem.Challenge.RW_folkfold_k57_families_of_errors
import HandS.HeadWalk
set_option Elab.async false
set_option linter.all false
set_option maxRecDepth 100000
set_option maxHeartbeats 4000000
/-! Exceptions of own classes whose __init__ calls super().__init__() and stores fields: over any built-in base. -/
namespace Mini
open PySem PySem.Spec PyProof.Rows L2 PySem.W
/-- what the written part tells of such a class -/
structure XcK (K : Frag) (C : Addr) (B newId initId : String) (bmB : List Value) : Prop where
  fb : ExcBaseFacts B newId initId bmB
  sf : StoreFacts B bmB "object.__setattr__" "object"
  ks : KxsFacts B initId
  ini : excInitIn K C bmB newId = true
  ovr : excOver K C bmB = true
  hd : hasDictIn K C = true
  sa : findIn K (.ref C) "__setattr__" = some (some (.builtin "object.__setattr__"))
  exC : subIn K (.ref C) (.type "BaseException") = some true
  sB : subIn K (.ref C) (.type B) = some true
  tyC : typeIn K (.ref C) = some (.type "type")
  kC : keepIn K (.ref C) = true
section
variable {prog : Program} {w : World} {A : Around} {R : Result → Shared → Prop} {hp : Heap} {g : Array GenState} {d : Drawn} {t : Nat} {os : OsState} {K : Frag} {C x T : Addr} {B newId initId : String} {bmB : List Value}
theorem xo_new {name : Str} {tk : Tok} {v : Value} (Y : XcK K C B newId initId bmB) (X : K.In hp) (hx : hp.get? x = some (excObj C T none .none)) (ht : takerIn K C name = some none)
    (hq : ∀ h' tk' dx, (∀ b o, b ≠ x → hp.get? b = some o → h'.get? b = some o) → hp.objs.size ≤ dx → dx ≠ x → h'.get? x = some (excObj C T (some dx) .none) → h'.Ns1 dx (fun y => if y = name then some v else none) → R (.ok (.ret .none)) ⟨h', g, d, tk', os⟩) :
    codeAny (model prog w) A (.call (.builtin "object.__setattr__") ⟨[.ref x, .str name tk, v], []⟩) R ⟨hp, g, d, t, os⟩ := by
  have lx : x < hp.objs.size := Heap.lt_size hx
  refine osa_openX (od := none) Y.sf X (⟨hx, rfl, rfl, trivial⟩ : InstAt hp x (excObj C T none .none) C none) Y.ovr ht fun b => ?_
  obtain ⟨cd, hcd, hdd⟩ := any_some Y.hd
  refine wpAny_bind (wpAny_pure (wpAny_bind (instanceDict_exc (s := ⟨hp, g, d, t, os⟩) hx (looks_clsIn X hcd) hdd ?_)))
  have gd : ((hp.push (dictOf [] 0)).update x fun o => { o with dict := some hp.objs.size }).get? hp.objs.size = some (dictOf [] 0) := (Heap.get?_update_ne _ _ _ _ (Nat.ne_of_gt lx)).trans (Heap.get?_push_at rfl rfl)
  have gx : ((hp.push (dictOf [] 0)).update x fun o => { o with dict := some hp.objs.size }).get? x = some (excObj C T (some hp.objs.size) .none) := Heap.get?_update_self _ (Heap.get?_push_of_some _ hx) rfl
  refine PySem.HandSPX.store_in_new (dx := hp.objs.size) ⟨_, #[], _, gd, rfl, fun e he => absurd he (by simp), fun _ => rfl⟩ fun h' tk' hn hs => ?_
  refine hq h' tk' hp.objs.size (fun b o hb ho => ?_) (Nat.le_refl _) (Nat.ne_of_gt lx) ((hs.2 x (Nat.ne_of_lt lx)).trans gx) hn
  exact (hs.2 b (Nat.ne_of_lt (Heap.lt_size ho))).trans ((Heap.get?_update_ne _ _ _ _ hb).trans (Heap.get?_push_of_some _ ho))
theorem xo_old {name : Str} {tk : Tok} {v : Value} {dx : Addr} {m0 : Str → Option Value} {nl : List Str} (Y : XcK K C B newId initId bmB) (X : K.In hp) (hx : hp.get? x = some (excObj C T (some dx) .none)) (hns : hp.Ns1 dx m0) (hw : Within m0 nl) (hz : nl.length ≤ 1000) (ht : takerIn K C name = some none)
    (hq : ∀ h' tk', (∀ b o, b ≠ dx → hp.get? b = some o → h'.get? b = some o) → h'.Ns1 dx (fun y => if y = name then some v else m0 y) → R (.ok (.ret .none)) ⟨h', g, d, tk', os⟩) :
    codeAny (model prog w) A (.call (.builtin "object.__setattr__") ⟨[.ref x, .str name tk, v], []⟩) R ⟨hp, g, d, t, os⟩ := by
  obtain ⟨oD, esD, epD, hoD, hdD, _⟩ := hns.count hw
  refine osa_openX (od := some oD) Y.sf X (⟨hx, rfl, rfl, hoD⟩ : InstAt hp x (excObj C T (some dx) .none) C (some oD)) Y.ovr ht fun b => ?_
  obtain ⟨cd, hcd, hdd⟩ := any_some Y.hd
  refine wpAny_bind (wpAny_pure (wpAny_bind (wpAny_bind (wpAny_loadPart (s := ⟨hp, g, d, t, os⟩) hx (wpAny_bind ((looks_clsIn X hcd).at ?_))))))
  rw [hdd]
  refine wpAny_pure (a := some dx) ?_
  exact PySem.OEX.store_in_old hns hw hz fun h' tk' hn hs => hq h' tk' (fun b o hb ho => (hs.2 b hb).trans ho) hn
end
section
variable {X : Cx} {pins : List (Addr × Obj)} {σ : L2.St} {H : Hp} {s : Shared} {a C dx : Addr} {f : Str} {y : V} {u : Value} {fs : List (Str × V)} {Q : Unit → Shared → Prop} {E : Value → Shared → Prop} {A : Around} {B newId initId : String} {bmB : List Value}
theorem xs_new (T : XcK X.K C B newId initId bmB) (I : Inv X pins σ H s) (e : H a = some (exo a C none)) (ht : takerIn X.K C f = some none) (ry : RelV y u)
    (h : ∀ dx s', H dx = none → dx ≠ a → Inv X pins σ (upd (upd H dx (exd dx [(f, y)])) a (exo a C (some dx))) s' → Q () s') : wpAny (model X.prog X.w) A (setAttr (.ref a) f u) Q E s := by
  obtain ⟨t1, ho⟩ := exo_at I.hok e
  obtain ⟨hp, g, d, t, os⟩ := s
  refine set_plain I.kIn (od := none) (⟨ho, rfl, rfl, trivial⟩ : InstAt hp a (excObj C t1 none .none) C none) T.sa (xo_new T I.kIn ho ht fun h' tk' dx k dn dne hx hn => ?_)
  have hnd : H dx = none := I.hok.fresh dn
  have nd : ∀ {b : Addr} {o : Obj}, hp.get? b = some o → b ≠ dx := fun q => Nat.ne_of_lt (Nat.lt_of_lt_of_le (Heap.lt_size q) dn)
  have na : ∀ {b : Addr}, H b = none → b ≠ a := fun n z => by
    rw [z, e] at n
    cases n
  have un : Un X.fs [] H (upd (upd H dx (exd dx [(f, y)])) a (exo a C (some dx))) hp h' :=
    ⟨fun b o q n _ _ => k b o (na n) q, fun b o q n _ _ => ⟨o.slots, k b o (na n) q⟩, fun b o q n _ => (upd_ne (na n)).trans ((upd_ne (nd q)).trans n),
      fun b o q _ => if hb : b = a then ⟨_, hb ▸ hx⟩ else ⟨o, k b o hb q⟩, fun b xs q => (upd_ne (at_ne e q exo_tup)).trans ((upd_ne (ne_of_none q hnd)).trans q),
      fun b o v q => (upd_ne (at_ne e q exo_frz)).trans ((upd_ne (ne_of_none q hnd)).trans q), fun b ps q => ⟨#[], by rw [upd_ne (at_ne e q exo_tbl), upd_ne (ne_of_none q hnd), q]; simp⟩⟩
  refine h dx _ hnd dne (I.un (t' := tk') un fun b o q => ?_)
  by_cases hb : b = a
  · subst hb
    rw [upd_same] at q
    cases q
    exact exo_ok hx
  rw [upd_ne hb] at q
  by_cases hd : b = dx
  · subst hd
    rw [upd_same] at q
    cases q
    exact exd_ok hn (relO_put (fs := []) ry fun g => True.intro)
  rw [upd_ne hd] at q
  have own : ∀ c, H c = some (.own b) → c ≠ a ∧ c ≠ dx := fun c hc => ⟨at_ne e hc exo_own, ne_of_none hc hnd⟩
  refine (I.hok b o q).stay (fun c v hc z => k c v (hc.elim (fun hc => hc ▸ hb) fun hc => (own c hc).1) z) (fun c hc => ?_) fun c xs hc => (upd_ne (at_ne e hc exo_tup)).trans ((upd_ne (ne_of_none hc hnd)).trans hc)
  exact (upd_ne (own c hc).1).trans ((upd_ne (own c hc).2).trans hc)
theorem xs_old (T : XcK X.K C B newId initId bmB) (I : Inv X pins σ H s) (e : H a = some (exo a C (some dx))) (ed : H dx = some (exd dx fs)) (hl : fs.length ≤ 900) (ht : takerIn X.K C f = some none) (ry : RelV y u)
    (h : ∀ s', Inv X pins σ (upd H dx (exd dx ((f, y) :: fs))) s' → Q () s') : wpAny (model X.prog X.w) A (setAttr (.ref a) f u) Q E s := by
  obtain ⟨t1, ho⟩ := exo_at I.hok e
  obtain ⟨mA, hns, rl⟩ := exd_at I.hok ed
  obtain ⟨hp, g, d, t, os⟩ := s
  obtain ⟨oD, _, _, hoD, _, _⟩ := hns.count (within_of rl)
  refine set_plain I.kIn (od := some oD) (⟨ho, rfl, rfl, hoD⟩ : InstAt hp a (excObj C t1 (some dx) .none) C (some oD)) T.sa (xo_old T I.kIn ho hns (within_of rl) (by rw [List.length_map]; omega) ht fun h' tk' k hn => ?_)
  obtain ⟨o1, _, _, e1, _⟩ := id hn
  exact h _ (I.write (t' := tk') (x := dx) (e := dx) (o := exd dx ((f, y) :: fs)) (by rw [ed]; exact True.intro) (.inl rfl) k ⟨o1, e1⟩ (exd_ok hn (relO_put ry rl)))
end
end Mini

set_option Elab.async false
set_option linter.all false
set_option maxRecDepth 100000
set_option maxHeartbeats 4000000
namespace Mini
open PySem PySem.Spec PyProof.Rows L2 PySem.W
theorem sup_eq {p0 p1 p2 p3 : Pos} {env : Env} (hp : (p2.endLine == p3.line) = true) : eval (.Call (.Attribute (.Call (.Name "super" p0) [] [] p1) "__init__" p2) [] [] p3) env = (do
      let ov ← attributeBase (.Call (.Name "super" p0) [] [] p1) "__init__" env (eval (.Call (.Name "super" p0) [] [] p1) env)
      standAt p2.atName
      let (f, first) ← holding [ov] (getMethod ov "__init__" (do return (← importBound (.Call (.Name "super" p0) [] [] p1) env).getD true))
      callWith p3 f first (backTo p3 (starEach [] env)) []) := by
  have e : ∀ ov, methodCall (.Call (.Name "super" p0) [] [] p1) "__init__" p2 p3 env ov 0 (backTo p3 (starEach [] env)) [] = (do
      let (f, first) ← holding [ov] (getMethod ov "__init__" (do return (← importBound (.Call (.Name "super" p0) [] [] p1) env).getD true))
      callWith p3 f first (backTo p3 (starEach [] env)) []) := fun ov => by
    unfold methodCall methodCallPos
    rw [hp, Bool.or_true, if_pos rfl]
    simp only [pure_bind]
    rfl
  show (do
    let ov ← attributeBase (.Call (.Name "super" p0) [] [] p1) "__init__" env (eval (.Call (.Name "super" p0) [] [] p1) env)
    standAt p2.atName
    methodCall (.Call (.Name "super" p0) [] [] p1) "__init__" p2 p3 env ov 0 (backTo p3 (starEach [] env)) []) = _
  simp only [e]

/-- what the written part tells of the class's own __init__: its function, its cell __class__, its code object -/
structure XiK (P : Program) (K : Frag) (C fI cc cda : Addr) (initId : String) (params : Arguments) (body : List Stmt) (scope : Scope) (qual : Str) (fd : FuncData) : Prop where
  fn : ∃ (oc : Value) (od : Option Addr) (kV doc pm : Value) (an : Option Addr) (ct : Value) (osl : Array (Option Value)), fd = ksFn "__init__" qual params body scope .none kV doc pm an (.ref cda) ct cc ∧ K.lookup fI = some ⟨oc, od, .func fd, osl⟩
  cell : ∃ cl cld csl, K.lookup cc = some ⟨cl, cld, .cell (some (.ref C)), csl⟩
  code : ∃ ccl cdd vs ccs file tf, K.lookup cda = some ⟨ccl, cdd, .fields vs, ccs⟩ ∧ vs[2]? = some (.str file tf) ∧ ((P.main.file : Str) == file) = true
  cdi : codeIn K (.ref cda) qual = true
  cls : ∃ cd, clsIn K C = some cd
  mro : mroIn K C (.ref C) = some true
  opq : nsIn K cStatics "thirdparty.any" = some none
  sup : ks_superIn K C C "__init__" = some (some (.builtin initId))
  iC : findIn K (.ref C) "__init__" = some (some (.ref fI))
  tI : typeIn K (.ref fI) = some (.type "function")
  top : (P.main.scope.names.lookup ("super" : Str)).isSome = false
section
variable {X : Cx} {pins : List (Addr × Obj)} {σ : L2.St} {H : Hp} {s : Shared} {a C fI cc cda : Addr} {B newId initId : String} {bmB : List Value} {params : Arguments} {body bd : List Stmt} {scope : Scope} {qual : Str} {fd : FuncData} {E : Value → Shared → Prop} {p0 p1 p2 p3 p4 : Pos} {ar : Arg}
/-- the built-in __init__, bound to the exception, called with nothing -/
theorem mw_call {A : Around} {u : Addr} {Q : Value → Shared → Prop} (T : XcK X.K C B newId initId bmB) (I : Inv X pins σ H s) (e : H a = some (exo a C none)) (hu : s.heap.get? u = some (kxs_mw initId a)) (h : ∀ s', Inv X pins σ H s' → Q .none s') :
    wpAny (model X.prog X.w) A (call (.ref u) []) Q E s := by
  obtain ⟨nm, N', qn, bs, bm, hdct, sn, sub, ab, col, dd, k0, k1, k2, k3, k5, hC, hT⟩ := excInit_of I.kIn T.ini
  obtain ⟨t1, ho⟩ := exo_at I.hok e
  obtain ⟨hp, g, d, tk, os⟩ := s
  refine wpAny_call (codeAny_of_tree (show wpAny _ A.in1 (callAny (.ref u) ⟨[], []⟩) _ _ _ from ?_))
  simp only [callAny]
  refine wpAny_bind (wpAny_load hu ?_)
  simp only [kxs_mw, show (Value.type "method-wrapper" == Value.type "method" || Value.type "method-wrapper" == Value.type "builtin_function_or_method" || Value.type "method-wrapper" == Value.type "method-wrapper") = true by decide, if_true]
  refine KFB.if_so (by decide) (wpAny_bind (check_bound_init T.fb.toExcCallFacts hC ho rfl ?_))
  refine wpAny_bind (wpAny_pure (wpAny_pure ⟨plainId_quiet T.fb.init.plain _, codeAny_builtin T.fb.initEntry ?_⟩))
  refine exc_init_tree (cls := .ref C) (t0 := t1) (dv := none) (c2 := .none) (c3 := .none) (b4 := .bool false) ho (Nat.zero_le _) fun h' k hx _ => ?_
  have J := I.write (t' := tk) (x := a) (e := a) (o := exo a C none) (by rw [e]; exact True.intro) (.inl rfl) k ⟨_, hx⟩ (exo_ok hx)
  have eu : upd H a (exo a C none) = H := funext fun b => if hb : b = a then by rw [hb, upd_same, e] else upd_ne hb
  rw [eu] at J
  exact h _ J
theorem sup_run {i : Nat} {pl : Sem Bool} {Q : Flow → Shared → Prop} (T : XcK X.K C B newId initId bmB) (Y : XiK X.prog X.K C fI cc cda initId params bd scope qual fd) (I : Inv X pins σ H s) (e : H a = some (exo a C none)) (hms : X.mg "super" = none)
    (hks : X.env.kindOf "super" = some .globalImplicit) (hkc : X.env.kindOf "__class__" = some .free) (hfu : X.env.func = some fI) (hco : X.env.code = .ref cda) (hcl : X.env.cells.lookup ("__class__" : Str) = some cc) (hpar : (params.posonlyargs ++ params.args).head? = some ar)
    (hi : X.N[i]? = some ar.arg) (hsl : σ[i]? = some (some (.ref a))) (hal : X.env.scope.names.lookup ar.arg = some .local) (hint : interactive X.env = false) (hsw : swapsWith (.Call (.Attribute (.Call (.Name "super" p0) [] [] p1) "__init__" p2) [] [] p3) none p4.line X.env = pure false)
    (heq : eval (.Call (.Attribute (.Call (.Name "super" p0) [] [] p1) "__init__" p2) [] [] p3) X.env = (do
      let ov ← attributeBase (.Call (.Name "super" p0) [] [] p1) "__init__" X.env (eval (.Call (.Name "super" p0) [] [] p1) X.env)
      standAt p2.atName
      let (f, first) ← holding [ov] (getMethod ov "__init__" pl)
      callWith p3 f first (backTo p3 (starEach [] X.env)) []))
    (h : ∀ s', Inv X pins σ H s' → Q .next s') :
    _root_.PySem.wpAt (model X.prog X.w) X.A (.func body X.env) (exec (.Expr (.Call (.Attribute (.Call (.Name "super" p0) [] [] p1) "__init__" p2) [] [] p3) p4) X.env) Q E s := by
  obtain ⟨oc, od, kV, doc, pm, an, ct, osl, hfd, lkf⟩ := Y.fn
  obtain ⟨cl, cld, csl, lkc⟩ := Y.cell
  obtain ⟨ccl, cdd, vs, ccs, file, tf, lkd, hv2, hfile⟩ := Y.code
  obtain ⟨cd, hcd⟩ := Y.cls
  have KX := I.kIn
  obtain ⟨t1, ho⟩ := exo_at I.hok e
  have hsub : Looks (model X.prog X.w) s.heap (isSubtype (.ref C) (.ref C)) true := looks_mroIn KX Y.mro
  obtain ⟨oD, hD1, hD2⟩ : ∃ oD, s.heap.get? C = some oD ∧ oD.data = .cls cd := by
    unfold clsIn at hcd
    split at hcd
    · rename_i z1 z2 z3 z4 q
      cases hcd
      exact ⟨_, KX _ _ q, rfl⟩
    · cases hcd
  obtain ⟨mb, hb1, hb2⟩ := I.mod.blt
  obtain ⟨m, hn, hlk⟩ := id I.loc
  have hself : m ar.arg = some (.ref a) := by
    obtain ⟨u, r, l⟩ := hlk i ar.arg (.ref a) hi hsl (.inl hal)
    cases r
    rcases l with ⟨_, l⟩ | ⟨k, _⟩
    · exact l
    · have hal' : X.env.kindOf ar.arg = some .local := hal
      rw [hal'] at k
      rcases k with k | k <;> cases k
  refine ks_wpAt_Expr_any (ks_wpAt_MethodCall (pl := pl) ?_ heq) hint hsw
  refine ks_wpAt_super_base (f := fI) (cc := cda) (of := ⟨oc, od, .func fd, osl⟩) hks hkc (by decide) hfu (KX _ _ lkf) rfl (by rw [hfd]; exact hpar) hco (KX _ _ lkd) rfl hv2 hfile Y.top ?_
  refine ks_loadName_global I.ok.kind hks (Calls.loadGlobal_builtin (by rw [I.ok.glob]; exact I.mod.glob.keeps I.bk) hms (by rw [I.ok.blt]; exact hb1.keeps I.bk) ((hb2 "super" (by decide)).trans (by decide +kernel)) ⟨rfl, ?_⟩)
  refine wpAny_loadName_free I.ok.kind hkc hcl ⟨_, KX _ _ lkc, rfl⟩ (wpAny_loadName_local I.ok.kind hal hn hself (ks_wpAny_isType_cls hD1 hD2 ⟨rfl, ?_⟩))
  obtain ⟨hp, g, d, tk, os⟩ := s
  refine ks_wpAny_call_super hD1 hD2 ho rfl (fun c z => by cases z) hsub fun h1 e1 k1 => ?_
  have I1 : Inv X pins σ H ⟨h1, g, d, tk, os⟩ := I.kept (t' := tk) k1
  have KX1 := I1.kIn
  obtain ⟨t2, ho1⟩ := exo_at I1.hok e
  have J : InstAt h1 a (excObj C t2 none .none) C none := ⟨ho1, rfl, rfl, trivial⟩
  have hin : Looks (model X.prog X.w) h1 (isInstance (.ref a) (.type B)) true := J.type.andThen (looks_subIn KX1 T.sB)
  have hsu := Y.sup
  unfold ks_superIn at hsu
  rw [hcd] at hsu
  refine kxs_getMethod (K := X.K) T.ks e1 (looks_opaque KX1 Y.opq) (l₀ := cd.mro) (fun A' Q' E' s' k q => wpAny_bind ((looks_clsIn KX1 hcd) A' _ E' s' k (wpAny_pure q))) rfl KX1 hsu hin (ks_ne KX1 J hcd) (by decide) ?_
  have I2 : Inv X pins σ H ⟨h1.push (kxs_mw initId a), g, d, tk + 1, os⟩ := I1.kept (t' := tk + 1) fun b o z => Heap.get?_push_of_some _ z
  have gu : (h1.push (kxs_mw initId a)).get? h1.objs.size = some (kxs_mw initId a) := Heap.get?_push_at rfl rfl
  exact kxs_callWith (i := initId) (x := a) rfl (evalArgs_empty ⟨gu, mw_call T I2 e gu fun s' J' => h s' J'⟩)
/-- self.f = e, self an exception of the class at C -/
def tXs (C : Addr) (f : Str) (to te : TE) : TS := fun D σ H => te σ H fun y H1 => to σ H1 fun x H2 => ∃ a, x = .ref a ∧
  ((H2 a = some (exo a C none) ∧ ∀ dx, H2 dx = none → dx ≠ a → D.nx σ (upd (upd H2 dx (exd dx [(f, y)])) a (exo a C (some dx)))) ∨
    ∃ (dx : Addr) (fs : List (Str × V)), H2 a = some (exo a C (some dx)) ∧ H2 dx = some (exd dx fs) ∧ fs.length ≤ 900 ∧ D.nx σ (upd H2 dx (exd dx ((f, y) :: fs))))
theorem ps_xs {f : Str} {o e : Expr} {to te : TE} {p' pos : Pos} (T : XcK X.K C B newId initId bmB) (ht : takerIn X.K C f = some none) (ho : PE X o to) (he : PE X e te) (hs : swapsWith e (some (.Attribute o f p')) pos.line X.env = pure false := by rfl) :
    PS X (.Assign [.Attribute o f p'] e pos) (tXs C f to te) := ⟨fun pins s σ H D I h => by
  refine plainObj_wpAny_Assign_Attribute (thn (he.run pins s σ H _ I h) fun v s1 ⟨y, H1, I1, r1, q1⟩ => thn (ho.run pins s1 σ H1 _ I1 q1) fun u s2 ⟨x, H2, I2, r2, a, ex, q⟩ => ?_) hs
  subst ex
  obtain rfl : u = Value.ref a := r2
  rcases q with ⟨ea, q⟩ | ⟨dx, fs, ea, ed, hl, q⟩
  · exact xs_new T I2 ea ht r1 fun dx s' n ne J => ⟨σ, _, J, q dx n ne⟩
  · exact xs_old T I2 ea ed hl ht r1 fun s' J => ⟨σ, _, J, q⟩⟩
end
/-- the statement super().__init__() -/
abbrev supS (p0 p1 p2 p3 p4 : Pos) : Stmt := .Expr (.Call (.Attribute (.Call (.Name "super" p0) [] [] p1) "__init__" p2) [] [] p3) p4
section
variable {CX : CXT} {P : Program} {w : World} {K : Frag} {mg : Str → Option Value} {base : Heap} {N ps : List Str} {C fI cc cda : Addr} {B newId initId : String} {bmB : List Value} {params : Arguments} {rest : List Stmt} {scope : Scope} {qual : Str} {fd : FuncData} {k : Nat} {sp : Sp}
  {p0 p1 p2 p3 p4 : Pos} {ar : Arg}
abbrev xF (qual : Str) (params : Arguments) (body : List Stmt) (scope : Scope) (cc cda : Addr) : NdefX.NF := ⟨"__init__", qual, params, body, scope, [("__class__", cc)], cda⟩
/-- an __init__ that first calls super().__init__(), by the rest of its body -/
theorem xinit_of (T : XcK K C B newId initId bmB) (Y : XiK P K C fI cc cda initId params (supS p0 p1 p2 p3 p4 :: rest) scope qual fd) (hms : mg "super" = none)
    (hpo : (p2.endLine == p3.line) = true) (S : NdefX.NScope N ps ["__class__"] scope) (hks : scope.names.lookup ("super" : Str) = some .globalImplicit) (hpar : (params.posonlyargs ++ params.args).head? = some ar) (h0 : N[0]? = some ar.arg) (hal : scope.names.lookup ar.arg = some .local)
    (len : ∀ vs H Q E, sp vs H Q E → vs.length = ps.length) (hfst : ∀ vs H Q E, sp vs H Q E → ∃ a ws, vs = .ref a :: ws ∧ H a = some (exo a C none))
    (hrest : ∀ (A : Around) (outer : List Env) (s : Shared) (H : Hp) (vs : List V) (Q : VK) (E : XK), Room k (A.deeper (NdefX.envF (xF qual params (supS p0 p1 p2 p3 p4 :: rest) scope cc cda) fI s.heap.objs.size)) → sp vs H Q E →
      ∃ t, PSs (NdefX.ncx CX P w K mg base N (xF qual params (supS p0 p1 p2 p3 p4 :: rest) scope cc cda) fI A outer s H E) rest t ∧ t { nx := fun _ H' => Q .non H', rt := Q } (NdefX.startF N vs [some (.ref C)]) H) :
    FnOk P w K mg base CX (k + 1) fI fd ps sp := by
  refine ⟨len, fun A outer s H args us vs Q E hr e0 hb r hsp => ?_⟩
  obtain ⟨oc, od, kV, doc, pm, an, ct, osl, hfd, lkf⟩ := id Y.fn
  obtain ⟨cl, cld, csl, lkc⟩ := id Y.cell
  have hl := len _ _ _ _ hsp
  have KX : K.In s.heap := e0.mod.kin.keeps fun b o e => (e0.bs b o e).1
  have lim : s.heap.NoLimit := e0.mod.nolimit.keeps fun b o e => (e0.bs b o e).1
  subst hfd
  refine ks_codeAny_call_defAt hr.depth (KX _ _ lkf) rfl lim (codeRec_of KX Y.cdi) rfl hb S.nocell (fun y hy => S.par _ (List.of_mem_zip hy).1) (fun h₁ hns kp => ?_) S.co S.gen S.kind
  have CA : NdefX.CellsAt [(("__class__" : Str), cc)] ["__class__"] [some (.ref C)] s.heap H := by
    have hcell : s.heap.IsCell cc (some (.ref C)) := ⟨_, KX _ _ lkc, rfl⟩
    have hone : ∀ (y : Str) (c : Addr), ([(("__class__" : Str), cc)] : List (Str × Addr)).lookup y = some c → y = ("__class__" : Str) ∧ c = cc := fun y c q => by
      have m := PySem.mem_of_lookup q
      simp only [List.mem_singleton] at m
      cases m
      exact ⟨rfl, rfl⟩
    refine ⟨rfl, fun y c q => ?_, fun x y c q1 q2 => (hone x c q1).1.trans (hone y c q2).1.symm, fun i y q => ?_⟩
    · obtain ⟨_, rfl⟩ := hone y c q
      exact ⟨(e0.bs _ _ (e0.mod.kin _ _ lkc)).2, _, hcell⟩
    · cases i with
      | zero =>
        cases q
        exact ⟨cc, by simp [List.lookup], fun v q => by cases q; exact ⟨.ref C, rfl, hcell⟩⟩
      | succ i => cases i <;> cases q
  have I : Inv (NdefX.ncx CX P w K mg base N (xF qual params (supS p0 p1 p2 p3 p4 :: rest) scope cc cda) fI A outer s H E) [] (NdefX.startF N vs [some (.ref C)]) H { s with heap := h₁, toks := s.toks + (ps.zip us).length } := NdefX.inv_startN S hr.hd e0 hl r CA hns kp
  obtain ⟨a, ws, rfl, ea⟩ := hfst _ _ _ _ hsp
  obtain ⟨t, ht, hq⟩ := hrest A outer s H _ Q E (hr.deeper _) hsp
  have fin : ∀ {s' : Shared} {σ' : L2.St} {H' : Hp} {v : V} {u : Value}, Inv (NdefX.ncx CX P w K mg base N (xF qual params (supS p0 p1 p2 p3 p4 :: rest) scope cc cda) fI A outer s H E) [] σ' H' s' → RelV v u → Q v H' → CE outer P w H s Q u s' :=
    fun J rv q => ⟨_, _, J.os, J.bare, J.base, J.hok, rv, q⟩
  refine ks_wpAt_execs_cons (sup_run (X := NdefX.ncx CX P w K mg base N (xF qual params (supS p0 p1 p2 p3 p4 :: rest) scope cc cda) fI A outer s H E) (i := 0) (ar := ar) T Y I ea hms hks (S.frk _ (by simp)) rfl rfl (by rfl) hpar h0 (by rfl) hal (by simp [interactive, show (NdefX.ncx CX P w K mg base N (xF qual params (supS p0 p1 p2 p3 p4 :: rest) scope cc cda) fI A outer s H E).env.scope.kind = .function from S.kind]) rfl (sup_eq hpo) fun s' J => ?_)
  refine wpAt_of_wpAny (wpAny_mono (ht.run [] s' _ H _ J hq) (fun fl s2 hs => ?_) fun e s2 hs => hs)
  cases fl with
  | ret u =>
    obtain ⟨v, σ', H', J2, rv, q⟩ := hs
    exact fin J2 rv q
  | next =>
    obtain ⟨σ', H', J2, q⟩ := hs
    exact fin (v := V.non) (u := Value.none) J2 rfl q
  | brk => exact hs.elim fun _ z => z.elim fun _ z => z.2.elim
  | cont => exact hs.elim fun _ z => z.elim fun _ z => z.2.elim
end
end Mini

set_option Elab.async false
set_option linter.all false
set_option maxRecDepth 100000
set_option maxHeartbeats 4000000
namespace PySem
namespace MiniX
open PySem.W PySem.Calls PyProof.Rows
section
variable {M : Model} {prog : Program} {w : World} {A : Around} {E : Value → Shared → Prop} {R : Result → Shared → Prop} {h : Heap} {g : Array GenState} {d : Drawn} {t : Nat} {os : OsState} {kk : Str} {kv : Value}
variable {nm q : Str} {C N : Addr} {bs bm bmB : List Value} {hdct : Bool} {sn : List Str} {sub : List Value} {ab : Bool} {col : Option Bool} {dd : Option Addr} {k0 k1 k2 k3 k5 : Option Value} {B newId initId : String}
/-- the checks ahead of BaseException.__new__, one keyword given -/
theorem ck_newK (F : ExcBaseFacts B newId initId bmB) (hT : ∀ X : String, bm.contains (.type X) = bmB.contains (.type X)) {Q : Unit → Shared → Prop}
    (oC : h.get? C = some (excClassObj nm q C N bs bm hdct sn sub ab col dd k0 k1 k2 k3 k5 newId)) (hq : Q () ⟨h, g, d, t, os⟩) : wpAny M A (checkBuiltinCall newId ⟨[.ref C], [(kk, kv)]⟩) Q E ⟨h, g, d, t, os⟩ := by
  have c1 : (Value.ref C :: bm).contains (.type B) = true := by rw [List.contains_cons, hT, F.hasB, Bool.or_true]
  have c2 := F.noStar
  simp only [checkBuiltinCall, F.newKind, F.newSplit, F.newRow]
  repeat (first | refine wpAny_loadPart_at oC ?_ | (refine wpAny_isSubtype_exc oC ?_; rw [c1]) | refine wpAny_staticBase_exc oC ?_ | refine wpAny_madeBy_exc oC ?_ | simp only [bne_self_eq_false, Bool.false_eq_true, if_false] | wp_step)
  exact hq
end
section
variable {prog : Program} {w : World} {A : Around} {E : Value → Shared → Prop} {R : Result → Shared → Prop} {h : Heap} {g : Array GenState} {d : Drawn} {t : Nat} {os : OsState} {kk : Str} {kv : Value}
variable {nm q : Str} {C N : Addr} {bs bm bmB : List Value} {hdct : Bool} {sn : List Str} {sub : List Value} {ab : Bool} {col : Option Bool} {dd : Option Addr} {k0 k1 k2 k3 k5 : Option Value} {B newId initId : String}
theorem newK (F : ExcBaseFacts B newId initId bmB) (hT : ∀ X : String, bm.contains (.type X) = bmB.contains (.type X))
    (oC : h.get? C = some (excClassObj nm q C N bs bm hdct sn sub ab col dd k0 k1 k2 k3 k5 newId))
    (hq : R (.ok (.ret (.ref (h.objs.size + 1)))) ⟨(h.push (excTup [])).push (excObj C h.objs.size none .none), g, d, t, os⟩) :
    codeAny (model prog w) A (.builtin newId ⟨[.ref C], [(kk, kv)]⟩) R ⟨h, g, d, t, os⟩ := by
  have e1 := F.ends
  have cB : (Value.ref C :: bm).contains (.type B) = true := by rw [List.contains_cons, hT, F.hasB, Bool.or_true]
  have cA : (Value.ref C :: bm).contains (.type "AttributeError") = false := by rw [List.contains_cons, hT, F.noAttr]; rfl
  have cN : (Value.ref C :: bm).contains (.type "NameError") = false := by rw [List.contains_cons, hT, F.noName]; rfl
  refine codeAny_builtinAt F.entry ?_
  unfold Builtin.«BaseException.__new__»
  refine wpAt_bind ?_
  show wpAt _ _ _ (stack >>= fun z => _) _ _ _
  refine wpAt_bind (wpAt_stack fun p below => wpAt_of_wpAny ?_)
  wp_walk
  refine wpAt_of_wpAny ?_
  rw [F.owner]
  repeat (first | with_reducible refine wpAny_madeHere_exc F.canon oC ?_ | with_reducible refine wpAny_loadPart_at oC ?_ | (with_reducible refine wpAny_isSubtype_exc oC ?_; first | rw [cB] | rw [cA] | rw [cN]) | wp_step)
  show R _ _
  rw [Heap.size_push]
  exact hq
theorem typeK (F : ExcBaseFacts B newId initId bmB) (hT : ∀ X : String, bm.contains (.type X) = bmB.contains (.type X)) {fI : Addr} {Q : Fin → Shared → Prop}
    (oC : h.get? C = some (excClassObj nm q C N bs bm hdct sn sub ab col dd k0 k1 k2 k3 k5 newId))
    (hi : Looks (model prog w) h (typeLookup (.ref C) "__init__") (some (.ref fI))) (hb : ∀ self, Looks (model prog w) h (bindSpecial (.ref fI) self) (.ref fI, [self]))
    (hq : codeAny (model prog w) A (.call (.ref fI) ⟨[.ref (h.objs.size + 1)], [(kk, kv)]⟩)
      (fun r s' => match r with | .ok (.ret v) => v = .none ∧ Q (.done (.ret (.ref (h.objs.size + 1)))) s' | .ok _ => False | .error e => E e s')
      ⟨(h.push (excTup [])).push (excObj C h.objs.size none .none), g, d, t, os⟩) :
    wpAny (model prog w) A (Builtin.«type.__call__» ⟨[.ref C], [(kk, kv)]⟩) Q E ⟨h, g, d, t, os⟩ := by
  repeat (first | with_reducible refine wpAny_loadPart_at oC ?_ | with_reducible refine wpAny_madeBy_exc oC ?_ | wp_step)
  refine codeAny_call_builtin_code (Code.quiet_builtin _ F.quiet) (ck_newK F hT oC (newK F hT oC (show wpAny _ _ _ _ _ _ from ?_)))
  have k : ∀ b o, h.get? b = some o → ((h.push (excTup [])).push (excObj C h.objs.size none .none)).get? b = some o := fun b o e => Heap.get?_push_of_some _ (Heap.get?_push_of_some _ e)
  have oC1 := k _ _ oC
  have oe : ((h.push (excTup [])).push (excObj C h.objs.size none .none)).get? (h.objs.size + 1) = some (excObj C h.objs.size none .none) := by heap_get
  have cC : (Value.ref C :: bm).contains (.ref C) = true := by simp
  have i1 := hi.keeps k
  have b1 := (hb (.ref (h.objs.size + 1))).keeps k
  unfold isInstance
  repeat (first | with_reducible refine wpAny_loadPart_at oe ?_ | (with_reducible refine wpAny_isSubtype_exc oC1 ?_; rw [cC]) | wp_step)
  show wpAny _ _ (typeLookup (.ref C) _) _ _ _
  refine i1.at (wpAny_holding (wpAny_bind (b1.at ?_)))
  refine wpAny_bind (wpAny_call (codeAny_mono hq fun r s' z => ?_))
  rcases r with e | (v | _ | _ | _) <;> first | exact z | exact z.elim | skip
  obtain ⟨rfl, z⟩ := z
  first
    | exact wpAny_pure (wpAny_pure z)
    | (wp_walk; exact z)
theorem callK (F : ExcBaseFacts B newId initId bmB) (hT : ∀ X : String, bm.contains (.type X) = bmB.contains (.type X)) {fI : Addr}
    (oC : h.get? C = some (excClassObj nm q C N bs bm hdct sn sub ab col dd k0 k1 k2 k3 k5 newId))
    (hi : Looks (model prog w) h (typeLookup (.ref C) "__init__") (some (.ref fI))) (hb : ∀ self, Looks (model prog w) h (bindSpecial (.ref fI) self) (.ref fI, [self]))
    (hq : codeAny (model prog w) (A.under (.builtin "type.__call__" ⟨[.ref C], [(kk, kv)]⟩)) (.call (.ref fI) ⟨[.ref (h.objs.size + 1)], [(kk, kv)]⟩) (InitBack (h.objs.size + 1) R)
      ⟨(h.push (excTup [])).push (excObj C h.objs.size none .none), g, d, t, os⟩) :
    codeAny (model prog w) A (.call (.ref C) ⟨[], [(kk, kv)]⟩) R ⟨h, g, d, t, os⟩ := by
  have f1 := tc_lookup
  have f2 := tc_bind (.ref C)
  have hTy : (⟨h, g, d, t, os⟩ : Shared).TypeIs (.ref C) "type" := ⟨_, oC, rfl⟩
  refine codeAny_of_tree (show wpAny _ _ (callAny (.ref C) _) _ _ _ from ?_)
  repeat (any_goals (first | assumption | with_reducible refine wpAny_loadPart_at oC ?_ | wp_step))
  refine ⟨rfl, codeAny_call_builtin_at (Code.quiet_builtin _ (by decide +kernel)) entry_typeCall (wpAny_check_type_call_sub oC (typeK F hT oC hi hb ?_))⟩
  refine codeAny_mono hq fun r s' z => ?_
  rcases r with e | (v | _ | _ | _) <;> exact z
end
end MiniX
end PySem

set_option Elab.async false
set_option linter.all false
set_option maxRecDepth 100000
set_option maxHeartbeats 4000000
namespace Mini
open PySem PySem.Spec PyProof.Rows L2 PySem.W
/-- the promise of such an __init__: F tells the fields -/
def spI (C : Addr) (F : List V → List (Str × V)) (n : Nat) : Sp := fun vs H Q _ => ∃ (a : Addr) (ws : List V), vs = .ref a :: ws ∧ ws.length = n ∧ H a = some (exo a C none) ∧
  ∀ (d : Addr) (H2 : Hp), H d = none → d ≠ a → H2 a = some (exo a C (some d)) → H2 d = some (exd d (F ws)) → (∀ b, b ≠ a → b ≠ d → H2 b = H b) → Q .non H2
/-- an exception that is a value: of the class at C, its dict at d -/
def exq (a C d : Addr) : HO := .ext fun h => ∃ (fv : Array Value) (sl : Array (Option Value)), h.get? a = some ({ cls := .ref C, dict := some d, data := .fields fv, slots := sl } : Obj)
theorem exq_ok {P : Program} {w : World} {H : Hp} {h : Heap} {a C d : Addr} {fv : Array Value} {sl : Array (Option Value)} (e : h.get? a = some ({ cls := .ref C, dict := some d, data := .fields fv, slots := sl } : Obj)) : ObjOk P w H h a (exq a C d) :=
  ⟨⟨fv, sl, e⟩, ⟨_, e⟩, fun h1 h2 ⟨z, z2, q⟩ k => ⟨z, z2, k _ q⟩⟩
theorem exq_at {P : Program} {w : World} {H : Hp} {h : Heap} {a C d : Addr} (hok : HOk P w H h) (he : H a = some (exq a C d)) : ∃ (fv : Array Value) (sl : Array (Option Value)), h.get? a = some ({ cls := .ref C, dict := some d, data := .fields fv, slots := sl } : Obj) :=
  (show ObjOk P w H h a (.ext fun h => ∃ (fv : Array Value) (sl : Array (Option Value)), h.get? a = some ({ cls := .ref C, dict := some d, data := .fields fv, slots := sl } : Obj)) from hok a _ he).1
section
variable {X : Cx} {pins : List (Addr × Obj)} {σ : L2.St} {H : Hp} {s s' : Shared}
/-- an object that is not of the state is added to it, told -/
theorem Inv.track {a : Addr} {o : HO} {h' : Heap} {t' : Nat} (I : Inv X pins σ H s) (k : ∀ b u, s.heap.get? b = some u → h'.get? b = some u) (hn : s.heap.get? a = none) (na : H a = none) (new : ObjOk X.prog X.w (upd H a o) h' a o) : Inv X pins σ (upd H a o) { s with heap := h', toks := t' } := by
  have ne : ∀ {b u}, s.heap.get? b = some u → b ≠ a := fun q z => by rw [z, hn] at q; cases q
  refine I.un ⟨fun b u q n _ _ => k b u q, fun b u q n _ _ => ⟨u.slots, k b u q⟩, fun b u q n _ => (upd_ne (ne q)).trans n, fun b u q _ => ⟨u, k b u q⟩, fun b xs q => (upd_ne (ne_of_none q na)).trans q, fun b u xs q => (upd_ne (ne_of_none q na)).trans q, fun b ps q => ⟨#[], by rw [upd_ne (ne_of_none q na), q]; simp⟩⟩ fun b u q => ?_
  by_cases hb : b = a
  · subst hb
    rw [upd_same] at q
    cases q
    exact new
  · rw [upd_ne hb] at q
    exact (I.hok b u q).stay (fun c v _ r => k c v r) (fun c r => (upd_ne (ne_of_none r na)).trans r) fun c xs r => (upd_ne (ne_of_none r na)).trans r
end
/-- what a class call leaves, the exception not told -/
structure MadeX (X : Cx) (pins : List (Addr × Obj)) (σ : L2.St) (H : Hp) (C : Addr) (fs : List (Str × V)) (a d : Addr) (sI s' : Shared) : Prop where
  inv : Inv X pins σ (upd H d (.xd fs)) sI
  kp : ∀ b o, sI.heap.get? b = some o → s'.heap.get? b = some o
  no : sI.heap.get? a = none
  at_ : ∃ t0 : Addr, s'.heap.get? a = some ({ cls := .ref C, dict := some d, data := .fields #[.ref t0, .none, .none, .none, .bool false, .none] } : Obj)
  na : H a = none
  nd : H d = none
  da : d ≠ a
  os : s'.os = sI.os
  bare : AllBare s'.gens
section
variable {X : Cx} {pins : List (Addr × Obj)} {σ : L2.St} {H : Hp} {s : Shared} {C fI cc cda : Addr} {B newId initId : String} {bmB : List Value} {params : Arguments} {bd : List Stmt} {scope : Scope} {qual : Str} {fd : FuncData} {ps : List Str} {k n : Nat} {F : List V → List (Str × V)}
theorem made_of {hp : Heap} {g : Array GenState} {dr : Drawn} {tk : Nat} {os : OsState} {us : List Value} {vs : List V} {Q : Value → Shared → Prop} {E : Value → Shared → Prop} {r : Result} {s' : Shared} (T : XcK X.K C B newId initId bmB) (I : Inv X pins σ H ⟨hp, g, dr, tk, os⟩)
    (hQ : ∀ a d sI s', MadeX X pins σ H C (F vs) a d sI s' → Q (.ref a) s')
    (hh : CR (L2.CX X.prog X.w) X.stack X.prog X.w (upd H (hp.objs.size + 1) (exo (hp.objs.size + 1) C none)) ⟨(hp.push (excTup us)).push (excObj C hp.objs.size none .none), g, dr, tk, os⟩ (fun v H2 => v = .non ∧ ∃ d, H d = none ∧ d ≠ hp.objs.size + 1 ∧ H2 (hp.objs.size + 1) = some (exo (hp.objs.size + 1) C (some d)) ∧ H2 d = some (exd d (F vs)) ∧ ∀ b, b ≠ hp.objs.size + 1 → b ≠ d → H2 b = H b) (fun _ _ _ => False) r s') :
    InitBack (hp.objs.size + 1) (fun r s' => match r with | .ok (.ret v) => Q v s' | .ok _ => False | .error x => E x s') r s' := by
  have hsz : hp.objs.size ≤ hp.objs.size + 1 := Nat.le_succ _
  have hn : H (hp.objs.size + 1) = none := I.hok.fresh hsz
  have kk : ∀ b o, hp.get? b = some o → ((hp.push (excTup us)).push (excObj C hp.objs.size none .none)).get? b = some o := fun b o e => Heap.get?_push_of_some _ (Heap.get?_push_of_some _ e)
  cases r with
  | error er =>
    obtain ⟨_, _, _, _, _, _, _, _, _, _, _, _, z⟩ := hh
    exact z.elim
  | ok fl =>
    cases fl with
    | ret u =>
      obtain ⟨v, H2, os2, bare2, un2, hok2, rv, ev, d, nd, da, ea, ed, oth⟩ := hh
      subst ev
      refine ⟨rv, ?_⟩
      obtain ⟨h2, g2, d2, t2, os'⟩ := s'
      obtain ⟨t0, G, J, kG, ge, hoe, na⟩ := mk_end0 (d2 := d2) (t2 := t2) I hsz kk un2 hok2 os2 bare2 ea ed nd
      have e : upd (del H2 (hp.objs.size + 1)) d (.xd (F vs)) = upd H d (.xd (F vs)) := funext fun b => by
        by_cases hb : b = d
        · rw [hb, upd_same, upd_same]
        · rw [upd_ne hb, upd_ne hb]
          by_cases hba : b = hp.objs.size + 1
          · rw [hba, del_same, hn]
          · rw [del_ne hba, oth b hba hb]
      rw [e] at J
      exact hQ (hp.objs.size + 1) d ⟨G, g2, d2, t2, os'⟩ ⟨h2, g2, d2, t2, os'⟩ ⟨J, kG, ge, ⟨t0, hoe⟩, hn, nd, da, rfl, bare2⟩
    | next => exact False.elim hh
    | brk => exact False.elim hh
    | cont => exact False.elim hh
theorem mk_pos {us : List Value} {vs : List V} {Q : Value → Shared → Prop} {E : Value → Shared → Prop} (T : XcK X.K C B newId initId bmB) (Y : XiK X.prog X.K C fI cc cda initId params bd scope qual fd) (F1 : FnOk X.prog X.w X.K X.mg X.base (L2.CX X.prog X.w) k fI fd ps (spI C F n)) (hr : Room (k + 1) X.A)
    (I : Inv X pins σ H s) (r : Vals vs us) (hl : vs.length = n) (hz : n ≤ 1000) (hb : ∀ s e, BindsTo s fd ⟨.ref e :: us, []⟩ (ps.zip (.ref e :: us))) (hQ : ∀ a d sI s', MadeX X pins σ H C (F vs) a d sI s' → Q (.ref a) s') :
    wpAny (model X.prog X.w) X.A (call (.ref C) us) Q E s := by
  obtain ⟨nm, N', qn, bs, bm, hdct, sn, sub, ab, col, dd, k0, k1, k2, k3, k5, hC, hT⟩ := excInit_of I.kIn T.ini
  obtain ⟨oI, hoI, hcI⟩ : ∃ oI, s.heap.get? fI = some oI ∧ oI.cls = .type "function" := by
    obtain ⟨o, ho, hc⟩ := Option.map_eq_some_iff.mp (show (X.K.lookup fI).map (·.cls) = some (.type "function") from Y.tI)
    exact ⟨o, I.kIn _ _ ho, hc⟩
  obtain ⟨hp, g, dr, tk, os⟩ := s
  have hus : us.length ≤ sizeLine := by
    rw [← r.length, hl, sizeLine_eq]
    omega
  have oE : ((hp.push (excTup us)).push (excObj C hp.objs.size none .none)).get? (hp.objs.size + 1) = some (excObj C hp.objs.size none .none) := by heap_get
  have I2 : Inv X pins σ (upd H (hp.objs.size + 1) (exo (hp.objs.size + 1) C none)) ⟨(hp.push (excTup us)).push (excObj C hp.objs.size none .none), g, dr, tk, os⟩ :=
    I.laid (t' := tk) (fun b o e => Heap.get?_push_of_some _ (Heap.get?_push_of_some _ e)) (Nat.le_succ _) (exo_ok oE)
  refine wpAny_call (PySem.PX.call_own T.fb hT hC (looks_findIn I.kIn Y.iC) (fun self => exc_bind hoI hcI self) hus (codeAny_mono (F1.run _ X.stack _ _ ⟨.ref (hp.objs.size + 1) :: us, []⟩ (.ref (hp.objs.size + 1) :: us) (.ref (hp.objs.size + 1) :: vs)
    (fun v H2 => v = .non ∧ ∃ d, H d = none ∧ d ≠ hp.objs.size + 1 ∧ H2 (hp.objs.size + 1) = some (exo (hp.objs.size + 1) C (some d)) ∧ H2 d = some (exd d (F vs)) ∧ ∀ b, b ≠ hp.objs.size + 1 → b ≠ d → H2 b = H b) (fun _ _ _ => False) (hr.make C us []) (I2.env0.make C us []) (hb _ _) (.cons rfl r) ?_) fun r s' hh => made_of T I hQ hh))
  refine ⟨_, vs, rfl, hl, upd_same, fun d H2 n1 n2 e1 e2 e3 => ⟨rfl, d, by rwa [upd_ne n2] at n1, n2, e1, e2, fun b b1 b2 => by rw [e3 b b1 b2, upd_ne b1]⟩⟩
theorem mk_kw {kk : Str} {kv : Value} {x : V} {Q : Value → Shared → Prop} {E : Value → Shared → Prop} (T : XcK X.K C B newId initId bmB) (Y : XiK X.prog X.K C fI cc cda initId params bd scope qual fd) (F1 : FnOk X.prog X.w X.K X.mg X.base (L2.CX X.prog X.w) k fI fd ps (spI C F 1)) (hr : Room (k + 1) X.A)
    (I : Inv X pins σ H s) (r : RelV x kv) (hb : ∀ s e, BindsTo s fd ⟨[.ref e], [(kk, kv)]⟩ (ps.zip [.ref e, kv])) (hQ : ∀ a d sI s', MadeX X pins σ H C (F [x]) a d sI s' → Q (.ref a) s') :
    wpAny (model X.prog X.w) X.A (call (.ref C) [] [(kk, kv)]) Q E s := by
  obtain ⟨nm, N', qn, bs, bm, hdct, sn, sub, ab, col, dd, k0, k1, k2, k3, k5, hC, hT⟩ := excInit_of I.kIn T.ini
  obtain ⟨oI, hoI, hcI⟩ : ∃ oI, s.heap.get? fI = some oI ∧ oI.cls = .type "function" := by
    obtain ⟨o, ho, hc⟩ := Option.map_eq_some_iff.mp (show (X.K.lookup fI).map (·.cls) = some (.type "function") from Y.tI)
    exact ⟨o, I.kIn _ _ ho, hc⟩
  obtain ⟨hp, g, dr, tk, os⟩ := s
  have oE : ((hp.push (excTup [])).push (excObj C hp.objs.size none .none)).get? (hp.objs.size + 1) = some (excObj C hp.objs.size none .none) := by heap_get
  have I2 : Inv X pins σ (upd H (hp.objs.size + 1) (exo (hp.objs.size + 1) C none)) ⟨(hp.push (excTup [])).push (excObj C hp.objs.size none .none), g, dr, tk, os⟩ :=
    I.laid (t' := tk) (fun b o e => Heap.get?_push_of_some _ (Heap.get?_push_of_some _ e)) (Nat.le_succ _) (exo_ok oE)
  refine wpAny_call (PySem.MiniX.callK T.fb hT hC (looks_findIn I.kIn Y.iC) (fun self => exc_bind hoI hcI self) (codeAny_mono (F1.run _ X.stack _ _ ⟨[.ref (hp.objs.size + 1)], [(kk, kv)]⟩ [.ref (hp.objs.size + 1), kv] [.ref (hp.objs.size + 1), x]
    (fun v H2 => v = .non ∧ ∃ d, H d = none ∧ d ≠ hp.objs.size + 1 ∧ H2 (hp.objs.size + 1) = some (exo (hp.objs.size + 1) C (some d)) ∧ H2 d = some (exd d (F [x])) ∧ ∀ b, b ≠ hp.objs.size + 1 → b ≠ d → H2 b = H b) (fun _ _ _ => False) (hr.make C [] [(kk, kv)]) (I2.env0.make C [] [(kk, kv)]) (hb _ _) (.cons rfl (.cons r .nil)) ?_) fun r s' hh => made_of T I hQ hh))
  refine ⟨_, [x], rfl, rfl, upd_same, fun d H2 n1 n2 e1 e2 e3 => ⟨rfl, d, by rwa [upd_ne n2] at n1, n2, e1, e2, fun b b1 b2 => by rw [e3 b b1 b2, upd_ne b1]⟩⟩
end
end Mini

set_option Elab.async false
set_option linter.all false
set_option maxRecDepth 100000
set_option maxHeartbeats 4000000
namespace Mini
open PySem PySem.Spec PyProof.Rows L2 PySem.W
/-- an own exception class that may be called: n arguments, one of them (if any) by the keyword kk -/
structure XMk (P : Program) (w : World) (K : Frag) (mg : Str → Option Value) (base : Heap) (k : Nat) (C : Addr) (F : List V → List (Str × V)) (n : Nat) (kk : Option Str) : Prop where
  ex : ∃ (B newId initId : String) (bmB : List Value) (fI cc cda : Addr) (params : Arguments) (bd : List Stmt) (scope : Scope) (qual : Str) (fd : FuncData) (ps : List Str), XcK K C B newId initId bmB ∧ XiK P K C fI cc cda initId params bd scope qual fd ∧
    FnOk P w K mg base (L2.CX P w) k fI fd ps (spI C F n) ∧ (∀ s e us, us.length = n → BindsTo s fd ⟨.ref e :: us, []⟩ (ps.zip (.ref e :: us))) ∧ ∀ x, kk = some x → n = 1 ∧ ∀ s e v, BindsTo s fd ⟨[.ref e], [(x, v)]⟩ (ps.zip [.ref e, v])
  nz : n ≤ 1000
theorem XMk.kp {P : Program} {w : World} {K : Frag} {mg : Str → Option Value} {base : Heap} {k : Nat} {C : Addr} {F : List V → List (Str × V)} {n : Nat} {kk : Option Str} (M : XMk P w K mg base k C F n kk) : keepIn K (.ref C) = true ∧ subIn K (.ref C) (.type "BaseException") = some true ∧ typeIn K (.ref C) = some (.type "type") := by
  obtain ⟨_, _, _, _, _, _, _, _, _, _, _, _, _, T, _⟩ := M.ex
  exact ⟨T.kC, T.exC, T.tyC⟩
section
variable {X : Cx} {C : Addr} {F : List V → List (Str × V)} {n k j : Nat} {kk : Option Str} {x : Str} {e o : Expr} {es : List Expr} {p pos : Pos} {ta : TA} {te : TE}
def tMkX (C : Addr) (F : List V → List (Str × V)) (n : Nat) (t : TA) : L2.St → Hp → XK → Prop := fun σ H Q => t σ H fun vs H1 => vs.length = n ∧ ∀ d, H1 d = none → Q (.ref C) (some d) (upd H1 d (.xd (F vs)))
def tVlX (C : Addr) (F : List V → List (Str × V)) (n : Nat) (t : TA) : TE := fun σ H Q => t σ H fun vs H1 => vs.length = n ∧ ∀ a d, H1 a = none → H1 d = none → d ≠ a → Q (.ref a) (upd (upd H1 d (.xd (F vs))) a (exq a C d))
theorem MadeX.rz {pins : List (Addr × Obj)} {σ : L2.St} {H : Hp} {fs : List (Str × V)} {a d : Addr} {sI s' : Shared} {Q : XK} (m : MadeX X pins σ H C fs a d sI s') (hr : Raises X (.ref C)) (q : Q (.ref C) (some d) (upd H d (.xd fs))) : MkP X pins σ Q (.ref a) s' := by
  obtain ⟨t0, e⟩ := m.at_
  exact ⟨a, _, _, sI, _, .ref C, some d, rfl, m.inv, m.kp, m.no, e, ⟨rfl, rfl⟩, rfl, rfl, (upd_ne m.da.symm).trans m.na, m.os, m.bare, hr, q⟩
theorem MadeX.vl {pins : List (Addr × Obj)} {σ : L2.St} {H : Hp} {fs : List (Str × V)} {a d : Addr} {sI s' : Shared} {Q : VK} (m : MadeX X pins σ H C fs a d sI s') (q : Q (.ref a) (upd (upd H d (.xd fs)) a (exq a C d))) : EP X pins σ Q (.ref a) s' := by
  obtain ⟨t0, e⟩ := m.at_
  have na : upd H d (.xd fs) a = none := (upd_ne m.da.symm).trans m.na
  have J := Inv.track (o := exq a C d) (t' := s'.toks) m.inv m.kp m.no na (exq_ok e)
  refine ⟨.ref a, _, ?_, rfl, q⟩
  obtain ⟨h1, g1, d1, t1, o1⟩ := s'
  obtain ⟨h2, g2, d2, t2, o2⟩ := sI
  have eo : o1 = o2 := m.os
  subst eo
  exact ⟨J.ok, J.os, m.bare, J.base, J.loc, J.cell, J.free, J.freeC, J.pin, J.hok, J.len⟩
theorem mk_xE (M : XMk X.prog X.w X.K X.mg X.base k C F n kk) {pins : List (Addr × Obj)} {σ : L2.St} {H : Hp} {s : Shared} {us : List Value} {vs : List V} {Q : Value → Shared → Prop} {E : Value → Shared → Prop} (hr : Room (k + 1) X.A) (I : Inv X pins σ H s) (r : Vals vs us) (hl : vs.length = n)
    (hQ : ∀ a d sI s', MadeX X pins σ H C (F vs) a d sI s' → Q (.ref a) s') : wpAny (model X.prog X.w) X.A (call (.ref C) us) Q E s := by
  obtain ⟨_, _, _, _, _, _, _, _, _, _, _, _, _, T, Y, F1, hb, _⟩ := M.ex
  exact mk_pos T Y F1 hr I r hl M.nz (fun s e => hb s e us (by rw [← r.length, hl])) hQ
theorem raises_x (M : XMk X.prog X.w X.K X.mg X.base k C F n kk) : Raises X (.ref C) := raises_own M.kp.2.1 M.kp.2.2
theorem pmk_x (M : XMk X.prog X.w X.K X.mg X.base k C F n kk) (hr : Room (k + 1) X.A) (hg : Gl X x) (hm : X.mg x = some (.ref C)) (ha : PA X (e :: es) ta)
    (hdb : (x == ("__debug__" : Str)) = false := by decide) (he : starEach (e :: es) X.env = (false, eval e X.env) :: starEach es X.env := by rfl) (hpl : (backTo pos (starEach es X.env)).any (·.1) = false := by rfl) : PMk X (.Call (.Name x p) (e :: es) [] pos) (tMkX C F n ta) := by
  intro pins s σ H Q I h
  refine wpAny_Call_Name_kw (ld_glob I hg hm ?_ hdb)
  exact callWith_K (h₀ := X.base) I.ok.mod.kin M.kp.1 (thn (ha.run pos pins s σ H _ I h) fun us s1 ⟨vs, H1, I1, r1, hl, q1⟩ => ⟨I1.kIn, mk_xE M hr I1 r1 hl fun a d sI s' m => m.rz (raises_x M) (q1 d m.nd)⟩) he hpl
theorem pmk_x0 (M : XMk X.prog X.w X.K X.mg X.base k C F 0 kk) (hr : Room (k + 1) X.A) (hg : Gl X x) (hm : X.mg x = some (.ref C)) (hdb : (x == ("__debug__" : Str)) = false := by decide) : PMk X (.Call (.Name x p) [] [] pos) (tMkX C F 0 tNil) := by
  intro pins s σ H Q I h
  refine wpAny_Call_Name_kw (ld_glob I hg hm ?_ hdb)
  exact callWith_K0 I.kIn M.kp.1 (mk_xE (us := []) (vs := []) M hr I .nil rfl fun a d sI s' m => m.rz (raises_x M) (h.2 d m.nd))
theorem pe_x (M : XMk X.prog X.w X.K X.mg X.base k C F n kk) (hr : Room (k + 1) X.A) (hg : Gl X x) (hm : X.mg x = some (.ref C)) (ha : PA X (e :: es) ta)
    (hdb : (x == ("__debug__" : Str)) = false := by decide) (he : starEach (e :: es) X.env = (false, eval e X.env) :: starEach es X.env := by rfl) (hpl : (backTo pos (starEach es X.env)).any (·.1) = false := by rfl) : PE X (.Call (.Name x p) (e :: es) [] pos) (tVlX C F n ta) := by
  refine ⟨fun pins s σ H Q I h => wpAny_Call_Name_kw (ld_glob I hg hm ?_ hdb)⟩
  exact callWith_K (h₀ := X.base) I.ok.mod.kin M.kp.1 (thn (ha.run pos pins s σ H _ I h) fun us s1 ⟨vs, H1, I1, r1, hl, q1⟩ => ⟨I1.kIn, mk_xE M hr I1 r1 hl fun a d sI s' m => m.vl (q1 a d m.na m.nd m.da)⟩) he hpl
theorem pe_x0 (M : XMk X.prog X.w X.K X.mg X.base k C F 0 kk) (hr : Room (k + 1) X.A) (hg : Gl X x) (hm : X.mg x = some (.ref C)) (hdb : (x == ("__debug__" : Str)) = false := by decide) : PE X (.Call (.Name x p) [] [] pos) (tVlX C F 0 tNil) := by
  refine ⟨fun pins s σ H Q I h => wpAny_Call_Name_kw (ld_glob I hg hm ?_ hdb)⟩
  exact callWith_K0 I.kIn M.kp.1 (mk_xE (us := []) (vs := []) M hr I .nil rfl fun a d sI s' m => m.vl (h.2 a d m.na m.nd m.da))
/-- C(k = e) -/
theorem pe_xk {kx : Str} {kpos : Pos} (M : XMk X.prog X.w X.K X.mg X.base k C F 1 (some kx)) (hr : Room (k + 1) X.A) (hg : Gl X x) (hm : X.mg x = some (.ref C)) (he : PE X e te) (hdb : (x == ("__debug__" : Str)) = false := by decide) :
    PE X (.Call (.Name x p) [] [⟨some kx, e, kpos⟩] pos) (tVlX C F 1 (tCons te tNil)) := by
  refine ⟨fun pins s σ H Q I h => wpAny_Call_Name_kw (ld_glob I hg hm ?_ hdb)⟩
  refine callWith_KW0 (h₀ := X.base) I.ok.mod.kin M.kp.1 rfl (thn ((pk_cons he pk_nil).run pos pins s σ H _ I h) fun ws s2 ⟨zs, H2, I2, rz, hl, q2⟩ => ⟨I2.kIn, ?_⟩) rfl
  obtain ⟨_, _, _, _, _, _, _, _, _, _, _, _, _, T, Y, F1, _, hk⟩ := M.ex
  cases rz with
  | nil => cases hl
  | cons r rr =>
    cases rr with
    | cons _ _ => cases hl
    | nil => exact mk_kw T Y F1 hr I2 r (fun s e => (hk kx rfl).2 s e _) fun a d sI s' m => m.vl (q2 a d m.na m.nd m.da)
/-! ### fields, classes -/
/-- o.f, o an exception that is a value -/
def tXq (K : Frag) (f : Str) (te : TE) : TE := fun σ H Q => te σ H fun x H1 => ∃ (a C d : Addr) (fs : List (Str × V)) (v : V), x = .ref a ∧ XfC K C ∧ findIn K (.ref C) f = some none ∧ H1 a = some (exq a C d) ∧ H1 d = some (.xd fs) ∧ fs.lookup f = some v ∧ Q v H1
theorem pe_xq {f : Str} (he : PE X e te) (hb : attributeBase e f X.env (eval e X.env) = eval e X.env := by rfl) : PE X (.Attribute e f pos) (tXq X.K f te) := by
  refine ⟨fun pins s σ H Q I h => attr_of hb (thn (he.run pins s σ H _ I h) fun u s1 ⟨x, H1, I1, rx, a, C, d, fs, v, ex, T, hno, ea, ed, l, q⟩ => ?_)⟩
  subst ex
  obtain rfl : u = Value.ref a := rx
  obtain ⟨fv, sl0, ha⟩ := exq_at I1.hok ea
  obtain ⟨mA, hns, hrl⟩ := (show ObjOk X.prog X.w H1 s1.heap d (.xd fs) from I1.hok d _ ed)
  obtain ⟨od, ho, hl⟩ := lookIn_ns hns
  obtain ⟨u, hu, ru⟩ := RelO.some_of (v := v) (o := mA f) (by rw [← l]; exact hrl f)
  have J : InstAt s1.heap a { cls := .ref C, dict := some d, data := .fields fv, slots := sl0 } C (some od) := ⟨ha, rfl, rfl, ho⟩
  exact HandSPX.exc_get I1.kIn J T.ga T.gg T.exC (findObj_own T.hdC hno rfl (by rw [hl, hu])) (handed_of ru) ⟨v, H1, I1.tok _, ru, q⟩
/-- what isinstance asks of an exception class -/
structure XisC (K : Frag) (C : Addr) : Prop where
  cls : (clsIn K C).isSome = true
  ga : findIn K (.ref C) "__getattribute__" = some (some (.builtin "BaseException.__getattribute__"))
  gt : ∃ g, findIn K (.ref C) "__getattr__" = some g
  sb : subIn K (.ref C) (.type "BaseException") = some true
  ca : findIn K (.ref C) "__class__" = some (some (.builtin "object.__class__"))
  sp : specialIn K (.builtin "object.__class__") "__get__" = some (some (.builtin "getset_descriptor.__get__"))
  tk : takesIn K (.builtin "object.__class__") = some true
  mr : mroIn K C (.type "object") = some true
def rIsX (K : Frag) : List V → Hp → VK → Prop := fun xs H Q => ∃ (a C d : Addr) (c : V) (u : Value) (fs : List (Str × V)) (b : Bool), xs = [.ref a, c] ∧ ClsV c u ∧ XisC K C ∧ H a = some (exq a C d) ∧ H d = some (.xd fs) ∧ kitOne K (.ref C) u = some b ∧ Q (.bl b) H
theorem call_isX : CallR X (.builtin "isinstance") (rIsX X.K) := by
  intro pins s σ H xs us Q I r h
  obtain ⟨a, C, d, c, u, fs, b, rfl, kc, T, ea, ed, e, q⟩ := h
  obtain ⟨u1, u2, rfl, r1, r2⟩ := vals2 r
  obtain rfl := kc.eq r2
  cases (show u1 = Value.ref a from r1)
  obtain ⟨fv, sl0, ha⟩ := exq_at I.hok ea
  obtain ⟨mA, hns, hrl⟩ := (show ObjOk X.prog X.w H s.heap d (.xd fs) from I.hok d _ ed)
  obtain ⟨od, ho, _⟩ := lookIn_ns hns
  obtain ⟨g, hg⟩ := T.gt
  exact kia_one (kitx_exc T.cls T.ga hg T.sb T.ca T.sp T.tk T.mr) I.kIn (⟨ha, rfl, rfl, ho⟩ : InstAt s.heap a { cls := .ref C, dict := some d, data := .fields fv, slots := sl0 } C (some od)) e (fun z => nomatch z) fun tk => ⟨.bl b, H, I.tok tk, rfl, q⟩
def rIsXT (K : Frag) : List V → Hp → VK → Prop := fun xs H Q => ∃ (a C d tp : Addr) (cs : List V) (ws : List Value) (fs : List (Str × V)) (b : Bool), xs = [.ref a, .ref tp] ∧ H tp = some (.tup cs) ∧ Paired ClsV cs ws ∧ XisC K C ∧ H a = some (exq a C d) ∧ H d = some (.xd fs) ∧ kitAny K (.ref C) ws = some b ∧ Q (.bl b) H
theorem call_isXT : CallR X (.builtin "isinstance") (rIsXT X.K) := by
  intro pins s σ H xs us Q I r h
  obtain ⟨a, C, d, tp, cs, ws, fs, b, rfl, hT, kc, T, ea, ed, e, q⟩ := h
  obtain ⟨u1, u2, rfl, r1, r2⟩ := vals2 r
  cases (show u2 = Value.ref tp from r2)
  cases (show u1 = Value.ref a from r1)
  obtain ⟨fv, sl0, ha⟩ := exq_at I.hok ea
  obtain ⟨mA, hns, hrl⟩ := (show ObjOk X.prog X.w H s.heap d (.xd fs) from I.hok d _ ed)
  obtain ⟨od, ho, _⟩ := lookIn_ns hns
  obtain ⟨g, hg⟩ := T.gt
  obtain ⟨_, its, rv, ot, h1, h2, n, h3⟩ := (show ObjOk X.prog X.w H s.heap tp (.tup cs) from I.hok tp _ hT)
  obtain rfl := ClsV.all kc rv
  obtain ⟨oc, odd, dt, sl⟩ := ot
  simp only at h2 h3
  subst h2 h3
  exact kia_tup (kitx_exc T.cls T.ga hg T.sb T.ca T.sp T.tk T.mr) I.kIn (⟨ha, rfl, rfl, ho⟩ : InstAt s.heap a { cls := .ref C, dict := some d, data := .fields fv, slots := sl0 } C (some od)) h1 e (fun z => nomatch z) fun tk => ⟨.bl b, H, I.tok tk, rfl, q⟩
end
end Mini

set_option Elab.async false
set_option linter.all false
set_option maxRecDepth 100000
set_option maxHeartbeats 4000000
namespace Mini
open PySem PySem.Spec PyProof.Rows L2 PySem.W
section
variable {P : Program} {w : World} {K : Frag} {mg : Str → Option Value} {base : Heap} {C fI cc cda : Addr} {B newId initId : String} {bmB : List Value} {params : Arguments} {scope : Scope} {qual : Str} {fd : FuncData} {k : Nat} {f tag : Str} {j : Option Str}
  {p0 p1 p2 p3 p4 q1 q2 q3 q4 q5 q6 q7 q8 : Pos} {ar : Arg}
def fld1 (f tag : Str) : List V → List (Str × V)
  | [y] => [(f, y), ("tag", .str tag)]
  | _ => []
def fld0 (tag : Str) : List V → List (Str × V) := fun _ => [("tag", .str tag)]
abbrev tagS (tag : Str) (k : Nat) (q1 q2 q3 q4 : Pos) : Stmt := .Assign [.Attribute (.Name "self" q1) "tag" q2] (.Constant (.str tag) k q3) q4
abbrev fldS (f : Str) (q5 q6 q7 q8 : Pos) : Stmt := .Assign [.Attribute (.Name "self" q5) f q6] (.Name f q7) q8
theorem vals_one {vs : List V} {n : Nat} (h : vs.length = 1) : ∃ y, vs = [y] := by
  match vs, h with
  | [y], _ => exact ⟨y, rfl⟩
theorem init1_ok {n : Nat} (T : XcK K C B newId initId bmB) (Y : XiK P K C fI cc cda initId params [supS p0 p1 p2 p3 p4, tagS tag n q1 q2 q3 q4, fldS f q5 q6 q7 q8] scope qual fd) (hms : mg "super" = none) (hpo : (p2.endLine == p3.line) = true)
    (S : NdefX.NScope ["self", f, "__class__"] ["self", f] ["__class__"] scope) (hks : scope.names.lookup ("super" : Str) = some .globalImplicit) (hpar : (params.posonlyargs ++ params.args).head? = some ar) (har : ar.arg = "self")
    (t1 : takerIn K C "tag" = some none) (t2 : takerIn K C f = some none) (d1 : (f == ("__debug__" : Str)) = false) (d2 : (f == ("__classdict__" : Str)) = false) :
    FnOk P w K mg base (L2.CX P w) (k + 1) fI fd ["self", f] (spI C (fld1 f tag) 1) := by
  have l0 : scope.names.lookup ("self" : Str) = some .local := S.par _ (by simp)
  have l1 : scope.names.lookup f = some .local := S.par _ (by simp)
  refine xinit_of (N := ["self", f, "__class__"]) T Y hms hpo S hks hpar (by rw [har]; rfl) (by rw [har]; exact l0) (fun vs H Q E h => ?_) (fun vs H Q E h => ?_) fun A outer s H vs Q E hr h => ?_
  · obtain ⟨a, ws, rfl, h1, _⟩ := h
    rw [List.length_cons, h1]
    rfl
  · obtain ⟨a, ws, rfl, h1, h2, _⟩ := h
    exact ⟨a, ws, rfl, h2⟩
  · obtain ⟨a, ws, rfl, h1, h2, h3⟩ := h
    obtain ⟨y, rfl⟩ := vals_one (n := 0) h1
    refine ⟨tSeq (tXs C "tag" (tVar 0) (tC (.str tag))) (tXs C f (tVar 0) (tVar 1)), pss_cons (ps_xs T t1 (pe_var (i := 0) rfl (.inl l0)) pe_str) (pss_one (ps_xs T t2 (pe_var (i := 0) rfl (.inl l0)) (pe_var (i := 1) rfl (.inl l1) d1 d2))), ?_⟩
    refine ⟨.ref a, rfl, a, rfl, .inl ⟨h2, fun dx n1 n2 => ?_⟩⟩
    refine ⟨y, rfl, .ref a, rfl, a, rfl, .inr ⟨dx, [("tag", .str tag)], upd_same, (upd_ne n2).trans upd_same, by simp, ?_⟩⟩
    exact h3 dx _ n1 n2 ((upd_ne n2.symm).trans upd_same) upd_same fun b b1 b2 => (upd_ne b2).trans ((upd_ne b1).trans (upd_ne b2))
theorem init0_ok {n : Nat} (T : XcK K C B newId initId bmB) (Y : XiK P K C fI cc cda initId params [supS p0 p1 p2 p3 p4, tagS tag n q1 q2 q3 q4] scope qual fd) (hms : mg "super" = none) (hpo : (p2.endLine == p3.line) = true)
    (S : NdefX.NScope ["self", "__class__"] ["self"] ["__class__"] scope) (hks : scope.names.lookup ("super" : Str) = some .globalImplicit) (hpar : (params.posonlyargs ++ params.args).head? = some ar) (har : ar.arg = "self")
    (t1 : takerIn K C "tag" = some none) : FnOk P w K mg base (L2.CX P w) (k + 1) fI fd ["self"] (spI C (fld0 tag) 0) := by
  have l0 : scope.names.lookup ("self" : Str) = some .local := S.par _ (by simp)
  refine xinit_of (N := ["self", "__class__"]) T Y hms hpo S hks hpar (by rw [har]; rfl) (by rw [har]; exact l0) (fun vs H Q E h => ?_) (fun vs H Q E h => ?_) fun A outer s H vs Q E hr h => ?_
  · obtain ⟨a, ws, rfl, h1, _⟩ := h
    rw [List.length_cons, h1]
    rfl
  · obtain ⟨a, ws, rfl, h1, h2, _⟩ := h
    exact ⟨a, ws, rfl, h2⟩
  · obtain ⟨a, ws, rfl, h1, h2, h3⟩ := h
    refine ⟨tXs C "tag" (tVar 0) (tC (.str tag)), pss_one (ps_xs T t1 (pe_var (i := 0) rfl (.inl l0)) pe_str), ?_⟩
    refine ⟨.ref a, rfl, a, rfl, .inl ⟨h2, fun dx n1 n2 => ?_⟩⟩
    exact h3 dx _ n1 n2 upd_same ((upd_ne n2).trans upd_same) fun b b1 b2 => (upd_ne b1).trans (upd_ne b2)
end
/-! ### the facts, looked at -/
def eqo {α : Type} [BEq α] (a : Option α) (b : α) : Bool := match a with | some x => x == b | none => false
def xcB (K : Frag) (C : Addr) (B newId : String) (bmB : List Value) : Bool :=
  excInitIn K C bmB newId && (excOver K C bmB && (hasDictIn K C && (decide (findIn K (.ref C) "__setattr__" = some (some (.builtin "object.__setattr__"))) && (decide (subIn K (.ref C) (.type "BaseException") = some true) && (decide (subIn K (.ref C) (.type B) = some true) && (decide (typeIn K (.ref C) = some (.type "type")) && keepIn K (.ref C)))))))
theorem xcB_ok {K : Frag} {C : Addr} {B newId initId : String} {bmB : List Value} (fb : ExcBaseFacts B newId initId bmB) (sf : StoreFacts B bmB "object.__setattr__" "object") (ks : KxsFacts B initId) (h : xcB K C B newId bmB = true) : XcK K C B newId initId bmB := by
  obtain ⟨h1, h⟩ := He.ba h
  obtain ⟨h2, h⟩ := He.ba h
  obtain ⟨h3, h⟩ := He.ba h
  obtain ⟨h4, h⟩ := He.ba h
  obtain ⟨h5, h⟩ := He.ba h
  obtain ⟨h6, h⟩ := He.ba h
  obtain ⟨h7, h8⟩ := He.ba h
  exact ⟨fb, sf, ks, h1, h2, h3, of_decide_eq_true h4, of_decide_eq_true h5, of_decide_eq_true h6, of_decide_eq_true h7, h8⟩
/-- the class's __init__: its address, its cell, its code object -/
def xAdr (K : Frag) (C : Addr) : Addr × Addr × Addr := match findIn K (.ref C) "__init__" with
  | some (some (.ref f)) => (match K.lookup f with
    | some ⟨_, _, .func fd, _⟩ => (f, ((fd.closure.lookup ("__class__" : Str)).getD 0), (match fd.code with | .ref c => c | _ => 0))
    | _ => (f, 0, 0))
  | _ => (0, 0, 0)
/-- the shape of the body -/
def tailB : Option Str → List Stmt → Bool
  | none, [] => true
  | some f, [.Assign [.Attribute (.Name b _) g _] (.Name y _) _] => decide (b = ("self" : Str)) && (decide (g = f) && decide (y = f))
  | _, _ => false
theorem tail0 {rest : List Stmt} (h : tailB none rest = true) : rest = [] := by
  cases rest with
  | nil => rfl
  | cons a r => cases h
theorem tail1 {f : Str} {rest : List Stmt} (h : tailB (some f) rest = true) : ∃ q5 q6 q7 q8, rest = [fldS f q5 q6 q7 q8] := by
  unfold tailB at h
  split at h
  · rename_i e
    cases e
  · rename_i f' b q5 g q6 y q7 q8 e
    cases e
    obtain ⟨h1, h⟩ := He.ba h
    obtain ⟨h2, h3⟩ := He.ba h
    cases of_decide_eq_true h1
    cases of_decide_eq_true h2
    cases of_decide_eq_true h3
    exact ⟨_, _, _, _, rfl⟩
  · cases h
def bodyB (tag : Str) (f : Option Str) : List Stmt → Bool
  | .Expr (.Call (.Attribute (.Call (.Name s _) [] [] _) i p2) [] [] p3) _ :: .Assign [.Attribute (.Name a _) t _] (.Constant (.str x) _ _) _ :: rest =>
    decide (s = ("super" : Str)) && (decide (i = ("__init__" : Str)) && (decide (a = ("self" : Str)) && (decide (t = ("tag" : Str)) && (decide (x = tag) && ((p2.endLine == p3.line) && tailB f rest)))))
  | _ => false
theorem bodyB_ok {tag : Str} {f : Option Str} {body : List Stmt} (h : bodyB tag f body = true) : ∃ n p0 p1 p2 p3 p4 q1 q2 q3 q4 rest, body = supS p0 p1 p2 p3 p4 :: tagS tag n q1 q2 q3 q4 :: rest ∧ (p2.endLine == p3.line) = true ∧ tailB f rest = true := by
  unfold bodyB at h
  split at h
  · obtain ⟨h1, h⟩ := He.ba h
    obtain ⟨h2, h⟩ := He.ba h
    obtain ⟨h3, h⟩ := He.ba h
    obtain ⟨h4, h⟩ := He.ba h
    obtain ⟨h5, h⟩ := He.ba h
    obtain ⟨h6, h7⟩ := He.ba h
    cases of_decide_eq_true h1
    cases of_decide_eq_true h2
    cases of_decide_eq_true h3
    cases of_decide_eq_true h4
    cases of_decide_eq_true h5
    exact ⟨_, _, _, _, _, _, _, _, _, _, _, rfl, h6, h7⟩
  · cases h
/-- a def with one or two plain parameters -/
def parB (f : Option Str) : Arguments → Bool
  | ⟨[], [a], none, [], [], none, []⟩ => decide (a.arg = ("self" : Str)) && f.isNone
  | ⟨[], [a, b], none, [], [], none, []⟩ => decide (a.arg = ("self" : Str)) && (match f with | some f => decide (b.arg = f) | none => false)
  | _ => false
theorem parB0 {ps : Arguments} (h : parB none ps = true) : ∃ a, ps = ⟨[], [a], none, [], [], none, []⟩ ∧ a.arg = "self" := by
  unfold parB at h
  split at h
  · exact ⟨_, rfl, of_decide_eq_true (He.ba h).1⟩
  · exact nomatch (He.ba h).2
  · cases h
theorem parB1 {ps : Arguments} {f : Str} (h : parB (some f) ps = true) : ∃ a b, ps = ⟨[], [a, b], none, [], [], none, []⟩ ∧ a.arg = "self" ∧ b.arg = f := by
  unfold parB at h
  split at h
  · exact absurd (He.ba h).2 (by simp)
  · exact ⟨_, _, rfl, of_decide_eq_true (He.ba h).1, of_decide_eq_true (He.ba h).2⟩
  · cases h
def fileB (P : Program) (vs : Array Value) : Bool := match vs[2]? with
  | some (Value.str file _) => ((P.main.file : Str) == file)
  | _ => false
theorem fileB_ok {P : Program} {vs : Array Value} (h : fileB P vs = true) : ∃ file tf, vs[2]? = some (Value.str file tf) ∧ ((P.main.file : Str) == file) = true := by
  unfold fileB at h
  split at h
  · rename_i file tf hv
    exact ⟨file, tf, hv, h⟩
  · cases h
/-- how such a def takes its argument: by place, by name -/
def BindOk (f : Str) : Prop := ∀ (qual : Str) (t1 t2 : Option Expr) (q1 q2 : Pos) (body : List Stmt) (scope : Scope) (kV doc pm : Value) (an : Option Addr) (cdv ct : Value) (cc : Addr) (e u : Value),
  bindArgs (ksFn "__init__" qual ⟨[], [⟨"self", t1, q1⟩, ⟨f, t2, q2⟩], none, [], [], none, []⟩ body scope .none kV doc pm an cdv ct cc) ⟨[e, u], []⟩ = pure [(("self" : Str), e), (f, u)] ∧
  bindArgs (ksFn "__init__" qual ⟨[], [⟨"self", t1, q1⟩, ⟨f, t2, q2⟩], none, [], [], none, []⟩ body scope .none kV doc pm an cdv ct cc) ⟨[e], [(f, u)]⟩ = pure [(("self" : Str), e), (f, u)]
example : BindOk "index" := fun _ _ _ _ _ _ _ _ _ _ _ _ _ _ _ _ => ⟨rfl, rfl⟩
/-- all of it: initId, the tag, the field -/
def xiB (P : Program) (K : Frag) (C : Addr) (initId : String) (tag : Str) (f : Option Str) : Bool := match findIn K (.ref C) "__init__" with
  | some (some (.ref fI)) => (match K.lookup fI with
    | some ⟨.type "function", _, .func ⟨nm, qual, params, .stmts body, scope, gl, [(cx, cc)], .none, _, _, _, _, .ref cda, _, bl⟩, _⟩ =>
      decide (nm = ("__init__" : Str)) && (decide (gl = mainGlobals) && (decide (bl = builtinsNs) && (decide (cx = ("__class__" : Str)) && (parB f params && (bodyB tag f body && ((match K.lookup cc with
        | some ⟨_, _, .cell (some (.ref D)), _⟩ => decide (D = C)
        | _ => false) && ((match K.lookup cda with
        | some ⟨_, _, .fields vs, _⟩ => fileB P vs
        | _ => false) && (codeIn K (.ref cda) qual && ((clsIn K C).isSome && (decide (mroIn K C (.ref C) = some true) && (decide (nsIn K cStatics "thirdparty.any" = some none) && (decide (ks_superIn K C C "__init__" = some (some (.builtin initId))) &&
        (!(P.main.scope.names.lookup ("super" : Str)).isSome && (decide (takerIn K C "tag" = some none) && ((match f with
          | some f => decide (takerIn K C f = some none) && (!(f == ("__debug__" : Str)) && (!(f == ("__classdict__" : Str)) && NdefX.nscB ["self", f, "__class__"] ["self", f] ["__class__"] scope))
          | none => NdefX.nscB ["self", "__class__"] ["self"] ["__class__"] scope) && decide (scope.names.lookup ("super" : Str) = some .globalImplicit))))))))))))))))
    | _ => false)
  | _ => false
def gOf (tag : Str) : Option Str → List V → List (Str × V)
  | some f => fld1 f tag
  | none => fld0 tag
def nOf : Option Str → Nat
  | some _ => 1
  | none => 0
theorem nn {b : Bool} (h : (!b) = true) : b = false := by cases b <;> first | rfl | cases h
theorem xi_ok {P : Program} {w : World} {K : Frag} {mg : Str → Option Value} {base : Heap} {C : Addr} {B newId initId : String} {bmB : List Value} {tag : Str} {f : Option Str} {k : Nat} (T : XcK K C B newId initId bmB) (hms : mg "super" = none) (hbd : ∀ x, f = some x → BindOk x) (h : xiB P K C initId tag f = true) :
    XMk P w K mg base (k + 1) C (gOf tag f) (nOf f) f := by
  unfold xiB at h
  split at h
  · rename_i fI hI
    split at h
    · rename_i od nm qual params body scope gl cx cc kV doc pm an cda ct bl osl lkf
      obtain ⟨h1, h⟩ := He.ba h
      obtain ⟨h2, h⟩ := He.ba h
      obtain ⟨h3, h⟩ := He.ba h
      obtain ⟨h4, h⟩ := He.ba h
      obtain ⟨h5, h⟩ := He.ba h
      obtain ⟨h6, h⟩ := He.ba h
      obtain ⟨h7, h⟩ := He.ba h
      obtain ⟨h8, h⟩ := He.ba h
      obtain ⟨h9, h⟩ := He.ba h
      obtain ⟨h10, h⟩ := He.ba h
      obtain ⟨h11, h⟩ := He.ba h
      obtain ⟨h12, h⟩ := He.ba h
      obtain ⟨h13, h⟩ := He.ba h
      obtain ⟨h14, h⟩ := He.ba h
      obtain ⟨h15, h⟩ := He.ba h
      obtain ⟨h16, h17⟩ := He.ba h
      cases of_decide_eq_true h1
      cases of_decide_eq_true h2
      cases of_decide_eq_true h3
      cases of_decide_eq_true h4
      obtain ⟨n, p0, p1, p2, p3, p4, q1, q2, q3, q4, rest, rfl, hpo, ht⟩ := bodyB_ok h6
      have Y : XiK P K C fI cc cda initId params (supS p0 p1 p2 p3 p4 :: tagS tag n q1 q2 q3 q4 :: rest) scope qual (ksFn "__init__" qual params (supS p0 p1 p2 p3 p4 :: tagS tag n q1 q2 q3 q4 :: rest) scope .none kV doc pm an (.ref cda) ct cc) := by
        refine ⟨⟨_, _, kV, doc, pm, an, ct, _, rfl, lkf⟩, ?_, ?_, h9, Option.isSome_iff_exists.mp h10, of_decide_eq_true h11, of_decide_eq_true h12, of_decide_eq_true h13, hI, ?_, nn h14⟩
        · split at h7
          · rename_i z1 z2 D z3 lk
            cases of_decide_eq_true h7
            exact ⟨_, _, _, lk⟩
          · cases h7
        · split at h8
          · rename_i z1 z2 vs z3 lk
            obtain ⟨file, tf, hv, hf⟩ := fileB_ok h8
            exact ⟨_, _, vs, _, file, tf, lk, hv, hf⟩
          · cases h8
        · show (K.lookup fI).map (·.cls) = some (.type "function")
          rw [lkf]
          rfl
      have hks := of_decide_eq_true h17
      cases f with
      | none =>
        obtain rfl := tail0 ht
        obtain ⟨a, rfl, ha⟩ := parB0 h5
        refine ⟨⟨B, newId, initId, bmB, fI, cc, cda, _, _, scope, qual, _, ["self"], T, Y, init0_ok T Y hms hpo (NdefX.nscope_by h16) hks rfl ha (of_decide_eq_true h15), fun s e us hl => ?_, fun x z => by cases z⟩, Nat.zero_le _⟩
        obtain rfl := List.eq_nil_of_length_eq_zero hl
        refine .of_eq ?_
        obtain ⟨a1, a2, a3⟩ := a
        cases (show a1 = ("self" : Str) from ha)
        rfl
      | some f =>
        obtain ⟨q5, q6, q7, q8, rfl⟩ := tail1 ht
        obtain ⟨a, b, rfl, ha, hb⟩ := parB1 h5
        obtain ⟨g1, h16⟩ := He.ba h16
        obtain ⟨g2, h16⟩ := He.ba h16
        obtain ⟨g3, g4⟩ := He.ba h16
        refine ⟨⟨B, newId, initId, bmB, fI, cc, cda, _, _, scope, qual, _, ["self", f], T, Y, init1_ok T Y hms hpo (NdefX.nscope_by g4) hks rfl ha (of_decide_eq_true h15) (of_decide_eq_true g1) (nn g2) (nn g3), fun s e us hl => ?_, fun x z => ⟨rfl, fun s e v => ?_⟩⟩, Nat.succ_le_succ (Nat.zero_le 999)⟩
        · match us, hl with
          | [u], _ =>
            refine .of_eq ?_
            obtain ⟨a1, a2, a3⟩ := a
            obtain ⟨b1, b2, b3⟩ := b
            cases (show a1 = ("self" : Str) from ha)
            cases (show b1 = f from hb)
            exact (hbd _ rfl _ _ _ _ _ _ _ _ _ _ _ _ _ _ _ _).1
        · cases z
          refine .of_eq ?_
          obtain ⟨a1, a2, a3⟩ := a
          obtain ⟨b1, b2, b3⟩ := b
          cases (show a1 = ("self" : Str) from ha)
          cases (show b1 = _ from hb)
          exact (hbd _ rfl _ _ _ _ _ _ _ _ _ _ _ _ _ _ _ _).2
    · cases h
  · cases h
end Mini

set_option Elab.async false
set_option linter.all false
set_option maxRecDepth 100000
set_option maxHeartbeats 4000000
/-! A small machine of one's own over the hand layer: values, a store by places, and what a reading has to do with it. -/
namespace Mini
open PySem PySem.Spec PyProof.Rows L2
/-- a value; ref: a place of the store -/
inductive MV where
  | non | bl (b : Bool) | int (i : Int) | str (x : Str) | ref (a : Nat) | ty (n : String)
  deriving DecidableEq
/-- what stands at a place: a list, a tuple, a list that is only read, an exception of a class (by its number) with its fields -/
inductive MO where
  | lst (xs : List MV) | tup (xs : List MV) | rl (xs : List MV) | exc (c : Nat) (fs : List (Str × MV)) | ins (c : Nat) (fs : List (Str × MV)) | dic (kvs : List (Key × MV)) | tab (n : Nat) (q : Str)
  deriving DecidableEq
abbrev Store := List MO
abbrev Env' := List (Option MV)
/-- places as addresses -/
abbrev Pl := List Nat
def VR (r : Pl) : MV → V → Prop
  | .non, u => u = .non
  | .bl b, u => u = .bl b
  | .int i, u => u = .int i
  | .str x, u => u = .str x
  | .ty n, u => u = .ty n
  | .ref a, u => ∃ p, r[a]? = some p ∧ u = .ref p
theorem pre_get {r r' : Pl} (h : r <+: r') {i : Nat} {a : Addr} (e : r[i]? = some a) : r'[i]? = some a := by
  obtain ⟨l, rfl⟩ := h
  rw [List.getElem?_append_left (List.getElem?_eq_some_iff.mp e).1]
  exact e
theorem VR.mono {r r' : Pl} (h : r <+: r') {v : MV} {u : V} (x : VR r v u) : VR r' v u := by
  cases v with
  | ref a => obtain ⟨p, e, q⟩ := x; exact ⟨p, pre_get h e, q⟩
  | _ => exact x
abbrev VRs (r : Pl) : List MV → List V → Prop := Paired (VR r)
theorem VRs.mono {r r' : Pl} (h : r <+: r') : ∀ {vs : List MV} {us : List V}, VRs r vs us → VRs r' vs us
  | _, _, .nil => .nil
  | _, _, .cons x xs => .cons (x.mono h) (VRs.mono h xs)
theorem VRs.get {r : Pl} : ∀ {vs : List MV} {us : List V} {i : Nat} {v : MV}, VRs r vs us → vs[i]? = some v → ∃ u, us[i]? = some u ∧ VR r v u
  | _, _, _, _, .nil, e => by simp at e
  | _, _, 0, _, .cons x _, e => by simp at e; subst e; exact ⟨_, rfl, x⟩
  | _, _, i + 1, v, .cons _ t, e => by
    obtain ⟨u, h1, h2⟩ := VRs.get (i := i) (v := v) t (by simpa using e)
    exact ⟨u, by simpa using h1, h2⟩
theorem VRs.len {r : Pl} {vs : List MV} {us : List V} (h : VRs r vs us) : vs.length = us.length := Paired.length h
theorem VRs.append {r : Pl} : ∀ {vs ws : List MV} {us zs : List V}, VRs r vs us → VRs r ws zs → VRs r (vs ++ ws) (us ++ zs)
  | _, _, _, _, .nil, s => s
  | _, _, _, _, .cons x t, s => .cons x (VRs.append t s)
theorem VRs.set {r : Pl} {x : MV} {u : V} (q : VR r x u) : ∀ {xs : List MV} {us : List V} (i : Nat), VRs r xs us → VRs r (xs.set i x) (us.set i u)
  | _, _, _, .nil => .nil
  | _, _, 0, .cons _ t => .cons q t
  | _, _, i + 1, .cons y t => .cons y (VRs.set q i t)
theorem VRs.drop {r : Pl} : ∀ {vs : List MV} {us : List V} (n : Nat), VRs r vs us → VRs r (vs.drop n) (us.drop n)
  | _, _, 0, h => h
  | _, _, _ + 1, .nil => .nil
  | _, _, n + 1, .cons _ t => VRs.drop n t
theorem VRs.take {r : Pl} : ∀ {vs : List MV} {us : List V} (n : Nat), VRs r vs us → VRs r (vs.take n) (us.take n)
  | _, _, 0, _ => .nil
  | _, _, _ + 1, .nil => .nil
  | _, _, n + 1, .cons x t => .cons x (VRs.take n t)
/-- attributes by name -/
def FR (r : Pl) : List (Str × MV) → List (Str × V) → Prop := Paired fun p q => p.1 = q.1 ∧ VR r p.2 q.2
theorem FR.mono {r r' : Pl} (h : r <+: r') : ∀ {vs : List (Str × MV)} {us : List (Str × V)}, FR r vs us → FR r' vs us
  | _, _, .nil => .nil
  | _, _, .cons x xs => .cons ⟨x.1, x.2.mono h⟩ (FR.mono h xs)
theorem FR.lookup {r : Pl} {f : Str} {v : MV} : ∀ {vs : List (Str × MV)} {us : List (Str × V)}, FR r vs us → vs.lookup f = some v → ∃ u, us.lookup f = some u ∧ VR r v u
  | _, _, .nil, e => by simp [List.lookup] at e
  | (a, b) :: vs, (c, d) :: us, .cons x xs, e => by
    obtain ⟨h1, h2⟩ := x
    simp only at h1 h2
    subst h1
    rw [List.lookup_cons] at e ⊢
    by_cases q : (f == a) = true
    · rw [q] at e ⊢
      simp at e
      subst e
      exact ⟨d, rfl, h2⟩
    · have q' : (f == a) = false := by simpa using q
      rw [q'] at e ⊢
      exact FR.lookup xs e
/-- keys and what stands at them -/
def KR (r : Pl) : List (Key × MV) → List (Key × V) → Prop := Paired fun p q => p.1 = q.1 ∧ VR r p.2 q.2
theorem KR.mono {r r' : Pl} (h : r <+: r') : ∀ {vs : List (Key × MV)} {us : List (Key × V)}, KR r vs us → KR r' vs us
  | _, _, .nil => .nil
  | _, _, .cons x xs => .cons ⟨x.1, x.2.mono h⟩ (KR.mono h xs)
section
variable (C : Nat → Addr)
def OR' (r : Pl) (o : MO) (H : Hp) (a : Addr) : Prop := match o with
  | .lst xs => ∃ us, VRs r xs us ∧ H a = some (.lst us)
  | .tup xs => ∃ us, VRs r xs us ∧ H a = some (.tup us)
  | .rl xs => ∃ us, VRs r xs us ∧ Rd H a (.lst us)
  | .exc c fs => ∃ d us, FR r fs us ∧ H a = some (exq a (C c) d) ∧ H d = some (.xd us) ∧ d ∉ r
  | .ins c fs => ∃ d us, FR r fs us ∧ H a = some (.ins (C c) d us)
  | .dic kvs => ∃ us, KR r kvs us ∧ H a = some (.dK us)
  | .tab n q => a = C n ∧ LamX.TabS H a q
/-- the store stands in the heap -/
structure Rel (r : Pl) (M : Store) (H : Hp) : Prop where
  len : r.length = M.length
  nd : r.Nodup
  at_ : ∀ (i : Nat) (a : Nat) (o : MO), r[i]? = Option.some a → M[i]? = Option.some o → OR' C r o H a
end
section
variable {C : Nat → Addr} {r r' : Pl} {M : Store} {H H' : Hp}
theorem OR'.hs {o : MO} {a : Addr} (h : OR' C r o H a) : ∃ ho, H a = some ho := by
  cases o with
  | lst xs => obtain ⟨us, _, e⟩ := h; exact ⟨_, e⟩
  | tup xs => obtain ⟨us, _, e⟩ := h; exact ⟨_, e⟩
  | rl xs => obtain ⟨us, _, e | ⟨o, e⟩⟩ := h <;> exact ⟨_, e⟩
  | exc c fs => obtain ⟨d, us, _, e, _⟩ := h; exact ⟨_, e⟩
  | ins c fs => obtain ⟨d, us, _, e⟩ := h; exact ⟨_, e⟩
  | dic kvs => obtain ⟨us, _, e⟩ := h; exact ⟨_, e⟩
  | tab n q => obtain ⟨_, ps, e, _⟩ := h; exact ⟨_, e⟩
theorem Rel.hs (h : Rel C r M H) {i : Nat} {a : Addr} (e : r[i]? = some a) : ∃ ho, H a = some ho := by
  have hi : i < M.length := by rw [← h.len]; exact (List.getElem?_eq_some_iff.mp e).1
  exact (h.at_ i a M[i] e (by simp [hi])).hs
theorem Rel.mem_some (h : Rel C r M H) {a : Addr} (e : a ∈ r) : ∃ ho, H a = some ho := by
  obtain ⟨i, hi⟩ := List.getElem?_of_mem e
  exact h.hs hi
theorem Rel.fresh (h : Rel C r M H) {p : Addr} (e : H p = none) : p ∉ r := fun q => by
  obtain ⟨ho, z⟩ := h.mem_some q
  rw [e] at z; cases z
/-- the heap grows, new places -/
theorem OR'.mono {o : MO} {a : Addr} {l : Pl} (k : ∀ b ho, H b = some ho → H' b = some ho) (n : ∀ p ∈ l, H p = none) (h : OR' C r o H a) : OR' C (r ++ l) o H' a := by
  have pre : r <+: r ++ l := List.prefix_append r l
  cases o with
  | lst xs => obtain ⟨us, x, e⟩ := h; exact ⟨us, x.mono pre, k _ _ e⟩
  | tup xs => obtain ⟨us, x, e⟩ := h; exact ⟨us, x.mono pre, k _ _ e⟩
  | rl xs => obtain ⟨us, x, e⟩ := h; exact ⟨us, x.mono pre, e.elim (fun e => .inl (k _ _ e)) fun ⟨o, e⟩ => .inr ⟨o, k _ _ e⟩⟩
  | exc c fs =>
    obtain ⟨d, us, x, e, e2, nd⟩ := h
    refine ⟨d, us, x.mono pre, k _ _ e, k _ _ e2, fun q => ?_⟩
    rcases List.mem_append.mp q with q | q
    · exact nd q
    · rw [n d q] at e2; cases e2
  | ins c fs => obtain ⟨d, us, x, e⟩ := h; exact ⟨d, us, x.mono pre, k _ _ e⟩
  | dic kvs => obtain ⟨us, x, e⟩ := h; exact ⟨us, x.mono pre, k _ _ e⟩
  | tab n q => obtain ⟨e, t⟩ := h; exact ⟨e, t.ext k⟩
/-- what nobody knows is added -/
theorem Rel.same (h : Rel C r M H) (k : ∀ b ho, H b = some ho → H' b = some ho) : Rel C r M H' :=
  ⟨h.len, h.nd, fun i a o e1 e2 => by
    have q := OR'.mono (l := []) k (fun _ z => nomatch z) (h.at_ i a o e1 e2)
    rwa [List.append_nil] at q⟩
/-- a new object at a new place -/
theorem Rel.new (h : Rel C r M H) {p : Addr} (hp : H p = none) (k : ∀ b ho, H b = some ho → H' b = some ho) {o : MO} (ho : OR' C (r ++ [p]) o H' p) : Rel C (r ++ [p]) (M ++ [o]) H' := by
  refine ⟨by simp [h.len], ?_, fun i a ob e1 e2 => ?_⟩
  · exact List.nodup_append.mpr ⟨h.nd, by simp, fun a ha b hb => by simp at hb; subst hb; exact fun z => h.fresh hp (z ▸ ha)⟩
  · by_cases hi : i < r.length
    · rw [List.getElem?_append_left hi] at e1
      rw [List.getElem?_append_left (by rw [← h.len]; exact hi)] at e2
      exact OR'.mono k (fun q hq => by simp at hq; subst hq; exact hp) (h.at_ i a ob e1 e2)
    · have hi' : r.length ≤ i := Nat.le_of_not_lt hi
      rw [List.getElem?_append_right hi'] at e1
      rw [List.getElem?_append_right (by rw [← h.len]; exact hi')] at e2
      have z : i - r.length = 0 := by
        have := (List.getElem?_eq_some_iff.mp e1).1
        simp at this
        omega
      rw [z] at e1
      rw [← h.len, z] at e2
      simp at e1 e2
      subst e1 e2
      exact ho
theorem upd_keep {p : Addr} {o : HO} (hp : H p = none) : ∀ b ho, H b = some ho → upd H p o b = some ho := fun b ho e => by
  rw [upd_ne (ne_of_none e hp)]; exact e
theorem Rel.newLst (h : Rel C r M H) {p : Addr} (hp : H p = none) {xs : List MV} {us : List V} (x : VRs r xs us) : Rel C (r ++ [p]) (M ++ [.lst xs]) (upd H p (.lst us)) :=
  h.new hp (upd_keep hp) ⟨us, x.mono (List.prefix_append _ _), upd_same⟩
theorem Rel.newTup (h : Rel C r M H) {p : Addr} (hp : H p = none) {xs : List MV} {us : List V} (x : VRs r xs us) : Rel C (r ++ [p]) (M ++ [.tup xs]) (upd H p (.tup us)) :=
  h.new hp (upd_keep hp) ⟨us, x.mono (List.prefix_append _ _), upd_same⟩
theorem Rel.place (h : Rel C r M H) {p : Addr} : VR (r ++ [p]) (.ref M.length) (.ref p) :=
  ⟨p, by rw [← h.len]; simp, rfl⟩
/-- what may be written here -/
def MutK : HO → Prop
  | .lst _ => True
  | .ins _ _ _ => True
  | .dK _ => True
  | _ => False
/-- an object changes -/
theorem Rel.setO (h : Rel C r M H) {i : Nat} {a : Addr} {o : MO} {ho h0 : HO} (e1 : r[i]? = some a) (ha : H a = some h0) (hm : MutK h0) (y : OR' C r o (upd H a ho) a) : Rel C r (M.set i o) (upd H a ho) := by
  refine ⟨by simp [h.len], h.nd, fun j b o' f1 f2 => ?_⟩
  by_cases hj : j = i
  · subst hj
    rw [e1] at f1
    cases f1
    have hlt : j < M.length := by rw [← h.len]; exact (List.getElem?_eq_some_iff.mp e1).1
    rw [List.getElem?_set_self hlt] at f2
    cases f2
    exact y
  · rw [List.getElem?_set_ne (fun z => hj z.symm)] at f2
    have nb : b ≠ a := fun z => by
      subst z
      have h1 := (List.getElem?_eq_some_iff.mp e1)
      have h2 := (List.getElem?_eq_some_iff.mp f1)
      exact hj ((List.getElem_inj h.nd).mp (h2.2.trans h1.2.symm))
    have q := h.at_ j b o' f1 f2
    cases o' with
    | lst zs => obtain ⟨us, x, e⟩ := q; exact ⟨us, x, by rw [upd_ne nb]; exact e⟩
    | tup zs => obtain ⟨us, x, e⟩ := q; exact ⟨us, x, by rw [upd_ne nb]; exact e⟩
    | rl zs => obtain ⟨us, x, e⟩ := q; exact ⟨us, x, by unfold Rd; rw [upd_ne nb]; exact e⟩
    | ins c fs => obtain ⟨d, us, x, e⟩ := q; exact ⟨d, us, x, by rw [upd_ne nb]; exact e⟩
    | dic kvs => obtain ⟨us, x, e⟩ := q; exact ⟨us, x, by rw [upd_ne nb]; exact e⟩
    | tab n q' =>
      obtain ⟨e, ps, t1, t2, t3⟩ := q
      refine ⟨e, ps, by rw [upd_ne nb]; exact t1, t2, fun p cv hc => ?_⟩
      obtain ⟨c0, c1, c2⟩ := t3 p cv hc
      refine ⟨c0, c1, ?_⟩
      rw [upd_ne]
      · exact c2
      · rintro rfl
        rw [ha] at c2
        unfold LamX.CodeO at c2
        cases c2
        exact hm
    | exc c fs =>
      obtain ⟨d, us', x, e, e2, ndd⟩ := q
      have da : d ≠ a := fun z => by
        rw [z, ha] at e2
        cases e2
        exact hm
      exact ⟨d, us', x, by rw [upd_ne nb]; exact e, by rw [upd_ne da]; exact e2, ndd⟩
/-- a list changes -/
theorem Rel.setLst (h : Rel C r M H) {i : Nat} {a : Addr} {xs ys : List MV} {us : List V} (e1 : r[i]? = some a) (e2 : M[i]? = some (.lst xs)) (y : VRs r ys us) : Rel C r (M.set i (.lst ys)) (upd H a (.lst us)) := by
  obtain ⟨us0, _, ha⟩ := h.at_ i a _ e1 e2
  exact h.setO e1 ha True.intro ⟨us, y, upd_same⟩
/-- all but the tables stay -/
theorem Rel.extN (h : Rel C r M H) (e : LamX.ExtN H H') (t : ∀ (i n : Nat) (q : Str) (a : Addr), r[i]? = some a → M[i]? = some (.tab n q) → LamX.TabS H' a q) : Rel C r M H' := by
  refine ⟨h.len, h.nd, fun i a o e1 e2 => ?_⟩
  have q := h.at_ i a o e1 e2
  cases o with
  | lst xs => obtain ⟨us, x, z⟩ := q; exact ⟨us, x, e _ _ z fun ps w => by cases w⟩
  | tup xs => obtain ⟨us, x, z⟩ := q; exact ⟨us, x, e _ _ z fun ps w => by cases w⟩
  | rl xs => obtain ⟨us, x, z⟩ := q; exact ⟨us, x, z.elim (fun z => .inl (e _ _ z fun ps w => by cases w)) fun ⟨o, z⟩ => .inr ⟨o, e _ _ z fun ps w => by cases w⟩⟩
  | ins c fs => obtain ⟨d, us, x, z⟩ := q; exact ⟨d, us, x, e _ _ z fun ps w => by cases w⟩
  | dic kvs => obtain ⟨us, x, z⟩ := q; exact ⟨us, x, e _ _ z fun ps w => by cases w⟩
  | tab n q' => obtain ⟨e0, _⟩ := q; exact ⟨e0, t i n q' a e1 e2⟩
  | exc c fs => obtain ⟨d, us, x, z, z2, nd⟩ := q; exact ⟨d, us, x, e _ _ z (fun ps w => by unfold exq at w; cases w), e _ _ z2 (fun ps w => by cases w), nd⟩
end
/-- slots -/
def SR' (r : Pl) : Option MV → Option V → Prop
  | some v, some u => VR r v u
  | none, _ => True
  | some _, none => False
abbrev ER (r : Pl) : Env' → L2.St → Prop := Paired (SR' r)
theorem SR'.mono {r r' : Pl} (h : r <+: r') : ∀ {a : Option MV} {b : Option V}, SR' r a b → SR' r' a b
  | some _, some _, x => VR.mono h x
  | none, some _, _ => True.intro
  | none, none, _ => True.intro
theorem ER.mono {r r' : Pl} (h : r <+: r') : ∀ {a : Env'} {b : L2.St}, ER r a b → ER r' a b
  | _, _, .nil => .nil
  | _, _, .cons x xs => .cons (SR'.mono h x) (ER.mono h xs)
theorem ER.get {r : Pl} : ∀ {a : Env'} {b : L2.St} {i : Nat} {v : MV}, ER r a b → a[i]? = some (some v) → ∃ u, b[i]? = some (some u) ∧ VR r v u
  | _, _, _, _, .nil, e => by simp at e
  | _ :: _, b :: _, 0, v, .cons x _, e => by
    simp at e
    subst e
    cases b with
    | none => exact x.elim
    | some u => exact ⟨u, rfl, x⟩
  | _, _, i + 1, v, .cons _ t, e => by
    obtain ⟨u, h1, h2⟩ := ER.get (i := i) (v := v) t (by simpa using e)
    exact ⟨u, by simpa using h1, h2⟩
theorem ER.set {r : Pl} {v : Option MV} {u : Option V} (q : SR' r v u) : ∀ {a : Env'} {b : L2.St} (i : Nat), ER r a b → ER r (a.set i v) (b.set i u)
  | _, _, _, .nil => .nil
  | _, _, 0, .cons _ t => .cons q t
  | _, _, i + 1, .cons y t => .cons y (ER.set q i t)
def wipe' (env : Env') : List Nat → Env'
  | [] => env
  | v :: vs => (wipe' env vs).set v none
theorem ER.wipe {r : Pl} {a : Env'} {b : L2.St} (h : ER r a b) : ∀ vs, ER r (wipe' a vs) (L2.wipe b vs)
  | [] => h
  | v :: vs => ER.set (v := none) (u := none) True.intro v (ER.wipe h vs)
def start' (n : Nat) (vs : List MV) : Env' := vs.map some ++ List.replicate (n - vs.length) none
theorem ER.rep {r : Pl} : ∀ n, ER r (List.replicate n none) (List.replicate n none)
  | 0 => .nil
  | n + 1 => .cons True.intro (ER.rep n)
theorem ER.app {r : Pl} : ∀ {a c : Env'} {b d : L2.St}, ER r a b → ER r c d → ER r (a ++ c) (b ++ d)
  | _, _, _, _, .nil, s => s
  | _, _, _, _, .cons x t, s => .cons x (ER.app t s)
theorem ER.smap {r : Pl} : ∀ {vs : List MV} {us : List V}, VRs r vs us → ER r (vs.map some) (us.map some)
  | _, _, .nil => .nil
  | _, _, .cons x t => .cons x (ER.smap t)
theorem ER.start {r : Pl} {N : List Str} {vs : List MV} {us : List V} (h : VRs r vs us) : ER r (start' N.length vs) (L2.start N us) := by
  unfold start' L2.start
  rw [h.len]
  exact ER.app (ER.smap h) (ER.rep _)
/-! ### outcomes -/
/-- stuck; a value and the store; an exception of a class with its fields -/
inductive Res (α : Type) where
  | no | ok (x : α) (M : Store) | ex (c : Nat) (fs : List (Str × MV)) (M : Store)
def Res.bnd {α β : Type} (z : Res α) (k : α → Store → Res β) : Res β := match z with
  | .no => .no
  | .ok x M => k x M
  | .ex c fs M => .ex c fs M
abbrev EF := Env' → Store → Res MV
abbrev AF := Env' → Store → Res (List MV)
section
variable (C : Nat → Addr)
/-- what is wished of an exception -/
def XW (r : Pl) (W : XK) (c : Nat) (fs : List (Str × MV)) (M : Store) : Prop := ∀ r' H d us, r <+: r' → Rel C r' M H → H d = some (.xd us) → FR r' fs us → d ∉ r' → W (.ref (C c)) (some d) H
def Out {α : Type} (r : Pl) (W : XK) (z : Res α) (K : Pl → Hp → α → Prop) : Prop := match z with
  | .no => False
  | .ok x M => ∀ r' H, r <+: r' → Rel C r' M H → K r' H x
  | .ex c fs M => XW C r W c fs M
end
section
variable {C : Nat → Addr} {α β : Type} {r r' : Pl} {W : XK}
theorem XW.mono {c : Nat} {fs : List (Str × MV)} {M : Store} (h : r <+: r') (x : XW C r W c fs M) : XW C r' W c fs M := fun r2 H d us p => x r2 H d us (h.trans p)
theorem Out.mono {z : Res α} {K : Pl → Hp → α → Prop} (h : r <+: r') (o : Out C r W z K) : Out C r' W z K := by
  cases z with
  | no => exact o
  | ok x M => exact fun r2 H p => o r2 H (h.trans p)
  | ex c fs M => exact XW.mono h o
theorem Out.bnd {z : Res α} {k : α → Store → Res β} {K : Pl → Hp → β → Prop} (o : Out C r W (z.bnd k) K) : Out C r W z fun r1 H1 x => ∃ M1, r <+: r1 ∧ Rel C r1 M1 H1 ∧ Out C r1 W (k x M1) K := by
  cases z with
  | no => exact o
  | ok x M => exact fun r1 H1 p rel => ⟨M, p, rel, Out.mono p (z := k x M) o⟩
  | ex c fs M => exact o
theorem Out.imp {z : Res α} {K K' : Pl → Hp → α → Prop} (o : Out C r W z K) (h : ∀ r' H x, r <+: r' → K r' H x → K' r' H x) : Out C r W z K' := by
  cases z with
  | no => exact o
  | ok x M => exact fun r1 H1 p rel => h r1 H1 x p (o r1 H1 p rel)
  | ex c fs M => exact o
/-- of a value -/
abbrev Vk (Q : VK) : Pl → Hp → MV → Prop := fun r H v => ∀ u, VR r v u → Q u H
abbrev Ak (Q : List V → Hp → Prop) : Pl → Hp → List MV → Prop := fun r H v => ∀ u, VRs r v u → Q u H
end
/-! ### readings -/
/-- the wish at the slots -/
abbrev wx (W : WX) (σ : L2.St) : XK := fun c d H => W c d σ H
section
variable (C : Nat → Addr) (W : WX)
def tE (f : EF) : TE := fun σ H Q => ∃ r env M, ER r env σ ∧ Rel C r M H ∧ Out C r (wx W σ) (f env M) (Vk Q)
def tA (f : AF) : TA := fun σ H Q => ∃ r env M, ER r env σ ∧ Rel C r M H ∧ Out C r (wx W σ) (f env M) (Ak Q)
end
section
variable {X : Cx} {e : Expr} {es : List Expr}
theorem PE.imp {t t' : TE} (h : PE X e t) (k : ∀ σ H Q, t' σ H Q → t σ H Q) : PE X e t' := ⟨fun pins s σ H Q I q => h.run pins s σ H Q I (k σ H Q q)⟩
theorem PA.imp {t t' : TA} (h : PA X es t) (k : ∀ σ H Q, t' σ H Q → t σ H Q) : PA X es t' := ⟨fun pos pins s σ H Q I q => h.run pos pins s σ H Q I (k σ H Q q)⟩
end
end Mini

set_option Elab.async false
set_option linter.all false
set_option maxRecDepth 100000
set_option maxHeartbeats 4000000
namespace Mini
open PySem PySem.Spec PyProof.Rows L2
section
variable {C : Nat → Addr} {W : WX} {X : Cx} {e a b c : Expr} {es : List Expr} {pos p : Pos}
/-! ### names, constants -/
def fVar (i : Nat) : EF := fun env M => match env[i]? with | some (some v) => .ok v M | _ => .no
theorem ok_same {α : Type} {r : Pl} {V : XK} {M : Store} {H : Hp} {x : α} {K : Pl → Hp → α → Prop} (rel : Rel C r M H) (o : Out C r V (.ok x M) K) : K r H x := o r H (List.prefix_refl _) rel
theorem se_var {i : Nat} {x : Str} (hN : X.N[i]? = some x) (hv : Vis X.env.scope x) (hd : (x == ("__debug__" : Str)) = false := by decide) (hcd : (x == ("__classdict__" : Str)) = false := by decide) : PE X (.Name x pos) (tE C W (fVar i)) := by
  refine PE.imp (pe_var hN hv hd hcd) fun σ H Q ⟨r, env, M, er, rel, o⟩ => ?_
  unfold fVar at o
  split at o
  · rename_i v' he
    obtain ⟨u, h1, h2⟩ := er.get he
    exact ⟨u, h1, ok_same rel o u h2⟩
  · exact o.elim
def fK (v : MV) : EF := fun _ M => .ok v M
theorem se_k {v : MV} {u : V} (h : PE X e (tC u)) (k : ∀ r, VR r v u) : PE X e (tE C W (fK v)) :=
  PE.imp h fun σ H Q ⟨r, env, M, er, rel, o⟩ => ok_same rel o u (k r)
theorem se_int {i : Int} {j} : PE X (.Constant (.int i) j pos) (tE C W (fK (.int i))) := se_k pe_int fun _ => rfl
theorem se_bl {i : Bool} {j} : PE X (.Constant (.bool i) j pos) (tE C W (fK (.bl i))) := se_k pe_bl fun _ => rfl
theorem se_str {i : Str} {j} : PE X (.Constant (.str i) j pos) (tE C W (fK (.str i))) := se_k pe_str fun _ => rfl
theorem se_non {j} : PE X (.Constant .none j pos) (tE C W (fK .non)) := se_k pe_non fun _ => rfl
/-- a built-in type's name -/
theorem se_ty {x : Str} {T : String} (hg : Gl X x) (hm : X.mg x = none) (hv : bootBuiltins x = some (.type T)) (hn : x ≠ "__name__" := by decide) (hd : (x == ("__debug__" : Str)) = false := by decide) : PE X (.Name x pos) (tE C W (fK (.ty T))) := se_k (pe_bltn (v := .ty T) hg hm hv rfl hn hd) fun _ => rfl
/-! ### arguments -/
def fNil : AF := fun _ M => .ok [] M
def fCons (fa : EF) (fr : AF) : AF := fun env M => (fa env M).bnd fun v M1 => (fr env M1).bnd fun vs M2 => .ok (v :: vs) M2
theorem sa_nil : PA X [] (tA C W fNil) := PA.imp pa_nil fun σ H Q ⟨r, env, M, er, rel, o⟩ => ok_same rel o [] .nil
theorem sa_cons {fa : EF} {fr : AF} (ha : PE X e (tE C W fa)) (hr : PA X es (tA C W fr)) (hs : starEach (e :: es) X.env = (false, eval e X.env) :: starEach es X.env := by rfl) : PA X (e :: es) (tA C W (fCons fa fr)) :=
  PA.imp (pa_cons ha hr hs) fun σ H Q ⟨r, env, M, er, rel, o⟩ => ⟨r, env, M, er, rel, o.bnd.imp fun r1 H1 v _ ⟨M1, p1, rel1, o1⟩ u vr => ⟨r1, env, M1, er.mono p1, rel1, o1.bnd.imp fun r2 H2 vs _ ⟨M2, p2, rel2, o2⟩ us vrs => ok_same rel2 o2 (u :: us) (.cons (vr.mono p2) vrs)⟩⟩
/-! ### two operands -/
abbrev G2 := MV → MV → Store → Res MV
def fBin (g : G2) (fa fb : EF) : EF := fun env M => (fa env M).bnd fun v M1 => (fb env M1).bnd fun w M2 => g v w M2
/-- the operation on values answers what the reading wants -/
def R2Ok (C : Nat → Addr) (r : R2) (g : G2) : Prop := ∀ (q : Pl) (M : Store) (H : Hp) (x y : V) (v w : MV) (E : XK) (Q : VK), Rel C q M H → VR q v x → VR q w y → Out C q E (g v w M) (Vk Q) → r x y H Q
theorem op_imp {r : R2} {g : G2} (k : R2Ok C r g) {fa fb : EF} (σ : L2.St) (H : Hp) (Q : VK) (h : tE C W (fBin g fa fb) σ H Q) : tOp r (tE C W fa) (tE C W fb) σ H Q := by
  obtain ⟨q, env, M, er, rel, o⟩ := h
  exact ⟨q, env, M, er, rel, o.bnd.imp fun r1 H1 v _ ⟨M1, p1, rel1, o1⟩ u vr => ⟨r1, env, M1, er.mono p1, rel1, o1.bnd.imp fun r2 H2 w _ ⟨M2, p2, rel2, o2⟩ y vry => k r2 M2 H2 u y v w _ Q rel2 (vr.mono p2) vry o2⟩⟩
theorem se_op {op : Operator} {r : R2} {g : G2} {fa fb : EF} (ho : OpR X (binaryOp op) r) (k : R2Ok C r g) (ha : PE X a (tE C W fa)) (hb : PE X b (tE C W fb)) : PE X (.BinOp a op b pos) (tE C W (fBin g fa fb)) :=
  PE.imp (pe_op ho ha hb) (op_imp k)
theorem se_cmp {op : CmpOp} {r : R2} {g : G2} {fa fb : EF} (ho : OpR X (compareOp op) r) (k : R2Ok C r g) (ha : PE X a (tE C W fa)) (hb : PE X b (tE C W fb)) (hm : behindInMarks op b = false := by rfl) : PE X (.Compare a [op] [b] pos) (tE C W (fBin g fa fb)) :=
  PE.imp (pe_cmpR ho ha hb hm) (op_imp k)
theorem se_ix {r : R2} {g : G2} {fa fb : EF} (ho : IxR X r) (k : R2Ok C r g) (ha : PE X a (tE C W fa)) (hb : PE X b (tE C W fb)) (hs : PlainIx b := by exact fun _ _ => rfl) : PE X (.Subscript a b pos) (tE C W (fBin g fa fb)) :=
  PE.imp (pe_ix ho ha hb hs) (op_imp k)
/-- two ints, the store as it was -/
def gI (cnd : Int → Int → Bool) (f : Int → Int → MV) : G2 := fun v w M => match v, w with
  | .int i, .int j => if cnd i j then .ok (f i j) M else .no
  | _, _ => .no
theorem r2I {Cn : Int → Int → Prop} {cnd : Int → Int → Bool} {g : Int → Int → V} {f : Int → Int → MV} (hc : ∀ i j, cnd i j = true → Cn i j) (hf : ∀ q i j, VR q (f i j) (g i j)) : R2Ok C (rI Cn g) (gI cnd f) := by
  intro q M H x y v w E Q rel hx hy o
  unfold gI at o
  split at o
  · rename_i i j
    split at o
    · rename_i hcd
      exact ⟨i, j, hx, hy, hc i j hcd, ok_same rel o _ (hf q i j)⟩
    · exact o.elim
  · exact o.elim
theorem r2I0 {g : Int → Int → V} {f : Int → Int → MV} (hf : ∀ q i j, VR q (f i j) (g i j)) : R2Ok C (rI0 g) (gI (fun _ _ => true) f) := by
  intro q M H x y v w E Q rel hx hy o
  unfold gI at o
  split at o
  · rename_i i j
    simp only [if_true] at o
    exact ⟨i, j, hx, hy, ok_same rel o _ (hf q i j)⟩
  · exact o.elim
/-- the first that answers -/
def gOr (g h : G2) : G2 := fun v w M => match g v w M with | .no => h v w M | z => z
theorem R2Ok.or {r r' : R2} {g h : G2} (k : R2Ok C r g) (k' : R2Ok C r' h) : R2Ok C (fun x y H Q => r x y H Q ∨ r' x y H Q) (gOr g h) := by
  intro q M H x y v w E Q rel hx hy o
  unfold gOr at o
  split at o
  · exact .inr (k' q M H x y v w E Q rel hx hy o)
  · rename_i hz
    exact .inl (k q M H x y v w E Q rel hx hy o)
def gAddI : G2 := gI (fun _ _ => true) fun i j => .int (i + j)
def gSubI : G2 := gI (fun _ _ => true) fun i j => .int (i - j)
def cMul (i j : Int) : Bool := (decide (-(2 ^ 64) < i) && decide (i < 2 ^ 64)) || (decide (-(2 ^ 64) < j) && decide (j < 2 ^ 64))
def gMulI : G2 := gI cMul fun i j => .int (i * j)
def gDivI : G2 := gI (fun _ j => decide (0 < j) && decide (j < 1073741824)) fun i j => .int (i / j)
def gModI : G2 := gI (fun _ j => decide (0 < j)) fun i j => .int (i % j)
def gPowI : G2 := gI (fun i j => decide (0 ≤ j) && decide (j ≤ 1000000) && decide (i.natAbs < 2 ^ 64)) fun i j => .int (i ^ j.toNat)
def gLtI : G2 := gI (fun _ _ => true) fun i j => .bl (decide (i < j))
def gLeI : G2 := gI (fun _ _ => true) fun i j => .bl (decide (i ≤ j))
def gGtI : G2 := gI (fun _ _ => true) fun i j => .bl (decide (j < i))
def gGeI : G2 := gI (fun _ _ => true) fun i j => .bl (decide (j ≤ i))
theorem cMul_ok {i j : Int} (h : cMul i j = true) : CMul i j := by
  unfold cMul at h
  simp only [Bool.or_eq_true, Bool.and_eq_true, decide_eq_true_eq] at h
  exact h
theorem k_add : R2Ok C (rI0 fun i j => .int (i + j)) gAddI := r2I0 fun _ _ _ => rfl
theorem k_sub : R2Ok C (rI0 fun i j => .int (i - j)) gSubI := r2I0 fun _ _ _ => rfl
theorem k_mul : R2Ok C (rI CMul fun i j => .int (i * j)) gMulI := r2I (fun _ _ => cMul_ok) fun _ _ _ => rfl
theorem k_div : R2Ok C (rI CDiv fun i j => .int (i / j)) gDivI := r2I (fun i j h => by simp only [Bool.and_eq_true, decide_eq_true_eq] at h; exact h) fun _ _ _ => rfl
theorem k_mod : R2Ok C (rI (fun _ j => 0 < j) fun i j => .int (i % j)) gModI := r2I (fun i j h => of_decide_eq_true h) fun _ _ _ => rfl
theorem k_pow : R2Ok C (rI CPow fun i j => .int (i ^ j.toNat)) gPowI := r2I (fun i j h => by simp only [Bool.and_eq_true, decide_eq_true_eq] at h; exact ⟨h.1.1, h.1.2, h.2⟩) fun _ _ _ => rfl
theorem k_lt : R2Ok C (rI0 fun i j => .bl (decide (i < j))) gLtI := r2I0 fun _ _ _ => rfl
theorem k_le : R2Ok C (rI0 fun i j => .bl (decide (i ≤ j))) gLeI := r2I0 fun _ _ _ => rfl
theorem k_gt : R2Ok C (rI0 fun i j => .bl (decide (j < i))) gGtI := r2I0 fun _ _ _ => rfl
theorem k_ge : R2Ok C (rI0 fun i j => .bl (decide (j ≤ i))) gGeI := r2I0 fun _ _ _ => rfl
/-! lists -/
def big : Nat := 100000
theorem big_ok {n : Nat} (h : n ≤ big) : n ≤ sizeLine := Nat.le_trans h (by decide)
def gCat : G2 := fun v w M => match v, w with
  | .ref a, .ref b => (match M[a]?, M[b]? with
    | some (.lst xs), some (.lst ys) => if xs.length + ys.length ≤ big then .ok (.ref M.length) (M ++ [.lst (xs ++ ys)]) else .no
    | _, _ => .no)
  | _, _ => .no
theorem Rel.lst {q : Pl} {M : Store} {H : Hp} {a : Nat} {u : V} {xs : List MV} (rel : Rel C q M H) (h : VR q (.ref a) u) (e : M[a]? = some (.lst xs)) : ∃ p us, u = .ref p ∧ q[a]? = some p ∧ VRs q xs us ∧ H p = some (.lst us) := by
  obtain ⟨p, e1, rfl⟩ := h
  obtain ⟨us, x, e2⟩ := rel.at_ a p _ e1 e
  exact ⟨p, us, rfl, e1, x, e2⟩
theorem Rel.tup {q : Pl} {M : Store} {H : Hp} {a : Nat} {u : V} {xs : List MV} (rel : Rel C q M H) (h : VR q (.ref a) u) (e : M[a]? = some (.tup xs)) : ∃ p us, u = .ref p ∧ q[a]? = some p ∧ VRs q xs us ∧ H p = some (.tup us) := by
  obtain ⟨p, e1, rfl⟩ := h
  obtain ⟨us, x, e2⟩ := rel.at_ a p _ e1 e
  exact ⟨p, us, rfl, e1, x, e2⟩
theorem Rel.rl {q : Pl} {M : Store} {H : Hp} {a : Nat} {u : V} {xs : List MV} (rel : Rel C q M H) (h : VR q (.ref a) u) (e : M[a]? = some (.rl xs)) : ∃ p us, u = .ref p ∧ q[a]? = some p ∧ VRs q xs us ∧ Rd H p (.lst us) := by
  obtain ⟨p, e1, rfl⟩ := h
  obtain ⟨us, x, e2⟩ := rel.at_ a p _ e1 e
  exact ⟨p, us, rfl, e1, x, e2⟩
theorem k_cat : R2Ok C rCat gCat := by
  intro q M H x y v w E Q rel hx hy hg
  unfold gCat at hg
  split at hg
  · rename_i a b
    split at hg
    · rename_i xs ys ea eb
      split at hg
      · rename_i hz
        obtain ⟨p1, us1, rfl, _, x1, h1⟩ := rel.lst hx ea
        obtain ⟨p2, us2, rfl, _, x2, h2⟩ := rel.lst hy eb
        refine ⟨p1, p2, us1, us2, rfl, rfl, h1, h2, ?_, fun p hp => hg (q ++ [p]) _ (List.prefix_append _ _) (rel.newLst hp (x1.append x2)) _ rel.place⟩
        rw [← x1.len, ← x2.len]
        exact big_ok hz
      · exact hg.elim
    · exact hg.elim
  · exact hg.elim
/-- [x] * n, n from 0 on -/
def gRep : G2 := fun v w M => match v, w with
  | .ref a, .int k => (match M[a]? with
    | some (.lst xs) => if 0 ≤ k ∧ k ≤ 1000 ∧ xs.length ≤ 100 then .ok (.ref M.length) (M ++ [.lst (List.replicate k.toNat xs).flatten]) else .no
    | _ => .no)
  | _, _ => .no
theorem VRs.rep {q : Pl} {xs : List MV} {us : List V} (h : VRs q xs us) : ∀ n, VRs q (List.replicate n xs).flatten (List.replicate n us).flatten
  | 0 => .nil
  | n + 1 => by
    rw [List.replicate_succ, List.replicate_succ, List.flatten_cons, List.flatten_cons]
    exact h.append (VRs.rep h n)
theorem k_rep : R2Ok C rRep gRep := by
  intro q M H x y v w E Q rel hx hy hg
  unfold gRep at hg
  split at hg
  · rename_i a k
    split at hg
    · rename_i xs ea
      split at hg
      · rename_i hz
        obtain ⟨p1, us1, rfl, _, x1, h1⟩ := rel.lst hx ea
        refine ⟨p1, k, us1, rfl, hy, h1, by omega, by omega, ?_, fun p hp => hg (q ++ [p]) _ (List.prefix_append _ _) (rel.newLst hp (x1.rep _)) _ rel.place⟩
        rw [← x1.len]
        have h2 : k.toNat ≤ 1000 := by omega
        have h3 : xs.length * k.toNat ≤ 100 * 1000 := Nat.mul_le_mul hz.2.2 h2
        exact Nat.le_trans h3 (by decide)
      · exact hg.elim
    · exact hg.elim
  · exact hg.elim
/-! subscripts -/
def gIxL : G2 := fun v w M => match v, w with
  | .ref a, .int i => (match M[a]? with
    | some (.lst xs) => (match atI xs i with | some z => .ok z M | none => .no)
    | some (.rl xs) => (match atI xs i with | some z => .ok z M | none => .no)
    | _ => .no)
  | _, _ => .no
def gIxT : G2 := fun v w M => match v, w with
  | .ref a, .int i => (match M[a]? with
    | some (.tup xs) => (match atI xs i with | some z => .ok z M | none => .no)
    | _ => .no)
  | _, _ => .no
theorem VRs.atI {q : Pl} {xs : List MV} {us : List V} (h : VRs q xs us) {i : Int} {z : MV} (e : L2.atI xs i = some z) : ∃ u, L2.atI us i = some u ∧ VR q z u := by
  unfold L2.atI at e ⊢
  rw [← h.len]
  cases k : ixN xs.length i with
  | none => rw [k] at e; cases e
  | some j =>
    rw [k] at e
    exact h.get e
theorem SqL.frz {K : PySem.W.Frag} {H : Hp} {a : Addr} {us : List V} (h : Rd H a (.lst us)) : SqL K H a us := .inl h
theorem k_ixL {K : PySem.W.Frag} : R2Ok C (rIxL K) gIxL := by
  intro q M H x y v w E Q rel hx hy hg
  unfold gIxL at hg
  split at hg
  · rename_i a i
    split at hg
    · rename_i xs ea
      split at hg
      · rename_i z' hz
        obtain ⟨p1, us1, rfl, _, x1, h1⟩ := rel.lst hx ea
        obtain ⟨u, e1, e2⟩ := x1.atI hz
        exact ⟨p1, us1, i, u, rfl, hy, SqL.of h1, e1, ok_same rel hg _ e2⟩
      · exact hg.elim
    · rename_i xs ea
      split at hg
      · rename_i z' hz
        obtain ⟨p1, us1, rfl, _, x1, h1⟩ := rel.rl hx ea
        obtain ⟨u, e1, e2⟩ := x1.atI hz
        exact ⟨p1, us1, i, u, rfl, hy, SqL.frz h1, e1, ok_same rel hg _ e2⟩
      · exact hg.elim
    · exact hg.elim
  · exact hg.elim
theorem k_ixT {K : PySem.W.Frag} : R2Ok C (rIxT K) gIxT := by
  intro q M H x y v w E Q rel hx hy hg
  unfold gIxT at hg
  split at hg
  · rename_i a i
    split at hg
    · rename_i xs ea
      split at hg
      · rename_i z' hz
        obtain ⟨p1, us1, rfl, _, x1, h1⟩ := rel.tup hx ea
        obtain ⟨u, e1, e2⟩ := x1.atI hz
        exact ⟨p1, us1, i, u, rfl, hy, SqT.of h1, e1, ok_same rel hg _ e2⟩
      · exact hg.elim
    · exact hg.elim
  · exact hg.elim
/-! equality -/
def scal' : MV → MV → Bool
  | .non, .non => true | .non, .int _ => true | .int _, .non => true | .non, .bl _ => true | .bl _, .non => true | .non, .str _ => true | .str _, .non => true
  | .int _, .int _ => true | .bl _, .bl _ => true | .str _, .str _ => true
  | .int _, .str _ => true | .str _, .int _ => true | .bl _, .str _ => true | .str _, .bl _ => true
  | _, _ => false
def gEqS : G2 := fun v w M => if scal' v w then .ok (.bl (decide (v = w))) M else .no
def gNeS : G2 := fun v w M => if scal' v w then .ok (.bl (!decide (v = w))) M else .no
theorem scal_ok {q : Pl} {v w : MV} {x y : V} (hx : VR q v x) (hy : VR q w y) (h : scal' v w = true) : scal x y = true ∧ decide (x = y) = decide (v = w) := by
  cases v <;> cases w <;> first
    | (cases h; done)
    | (simp only [VR] at hx hy; subst hx hy; refine ⟨rfl, ?_⟩; simp)
theorem k_eqS : R2Ok C rEq gEqS := by
  intro q M H x y v w E Q rel hx hy hg
  unfold gEqS at hg
  split at hg
  · rename_i hs
    obtain ⟨h1, h2⟩ := scal_ok hx hy hs
    exact ⟨h1, ok_same rel hg _ (by rw [h2]; exact rfl)⟩
  · exact hg.elim
theorem k_neS : R2Ok C rNe gNeS := by
  intro q M H x y v w E Q rel hx hy hg
  unfold gNeS at hg
  split at hg
  · rename_i hs
    obtain ⟨h1, h2⟩ := scal_ok hx hy hs
    exact ⟨h1, ok_same rel hg _ (by rw [h2]; exact rfl)⟩
  · exact hg.elim
/-- data, as deep as the first number says -/
def pdAll (f : MV → Option PyData) : List MV → Option (List PyData)
  | [] => some []
  | v :: vs => match f v, pdAll f vs with | some d, some ds => some (d :: ds) | _, _ => none
def pd (M : Store) : Nat → MV → Option PyData
  | 0, _ => none
  | n + 1, v => match v with
    | .non => some .none
    | .bl b => some (.bool b)
    | .int i => some (.int i)
    | .str x => some (.str x)
    | .ty _ => none
    | .ref a => match M[a]? with
      | some (.lst xs) => (pdAll (pd M n) xs).map .list
      | some (.tup xs) => (pdAll (pd M n) xs).map .tuple
      | _ => none
theorem pdAll_ok {K : PySem.W.Frag} {q : Pl} {H : Hp} {f : MV → Option PyData} (hf : ∀ v d u, f v = some d → VR q v u → Dp K H u d) : ∀ {vs : List MV} {ds : List PyData} {us : List V}, pdAll f vs = some ds → VRs q vs us → DpAll K H us ds
  | [], _, _, h, .nil => by cases h; exact .nil
  | v :: vs, ds, u :: us, h, .cons x xs => by
    unfold pdAll at h
    split at h
    · rename_i d ds' h1 h2
      cases h
      exact .cons (hf v d u h1 x) (pdAll_ok hf h2 xs)
    · cases h
theorem pd_ok {K : PySem.W.Frag} {q : Pl} {M : Store} {H : Hp} (rel : Rel C q M H) : ∀ n v d u, pd M n v = some d → VR q v u → Dp K H u d
  | 0, _, _, _, h, _ => by cases h
  | n + 1, v, d, u, h, x => by
    unfold pd at h
    cases v with
    | non => cases h; cases x; exact .non
    | bl b => cases h; cases x; exact .bl b
    | int b => cases h; cases x; exact .int b
    | str b => cases h; cases x; exact .str b
    | ty n => cases h
    | ref a =>
      simp only at h
      split at h
      · rename_i xs ea
        obtain ⟨p, us, rfl, _, vr, hp⟩ := rel.lst x ea
        cases k : pdAll (pd M n) xs with
        | none => rw [k] at h; cases h
        | some ds => rw [k] at h; cases h; exact .lst (SqL.of hp) (pdAll_ok (pd_ok rel n) k vr)
      · rename_i xs ea
        obtain ⟨p, us, rfl, _, vr, hp⟩ := rel.tup x ea
        cases k : pdAll (pd M n) xs with
        | none => rw [k] at h; cases h
        | some ds => rw [k] at h; cases h; exact .tup (SqT.of hp) (pdAll_ok (pd_ok rel n) k vr)
      · cases h
def gEqD : G2 := fun v w M => match pd M 5 v, pd M 5 w with
  | some d, some e => if SeqAt.shaped d && SeqAt.shaped e then .ok (.bl (PyData.eqv d e)) M else .no
  | _, _ => .no
def gNeD : G2 := fun v w M => match pd M 5 v, pd M 5 w with
  | some d, some e => if SeqAt.shaped d && SeqAt.shaped e then .ok (.bl (!PyData.eqv d e)) M else .no
  | _, _ => .no
theorem k_eqD {K : PySem.W.Frag} : R2Ok C (rEqD K) gEqD := by
  intro q M H x y v w E Q rel hx hy hg
  unfold gEqD at hg
  split at hg
  · rename_i d e h1 h2
    split at hg
    · rename_i hs
      have hs' := Bool.and_eq_true_iff.mp hs
      exact ⟨d, e, pd_ok rel 5 v d x h1 hx, pd_ok rel 5 w e y h2 hy, hs'.1, hs'.2, ok_same rel hg _ rfl⟩
    · exact hg.elim
  · exact hg.elim
theorem k_neD {K : PySem.W.Frag} : R2Ok C (rNeD K) gNeD := by
  intro q M H x y v w E Q rel hx hy hg
  unfold gNeD at hg
  split at hg
  · rename_i d e h1 h2
    split at hg
    · rename_i hs
      have hs' := Bool.and_eq_true_iff.mp hs
      exact ⟨d, e, pd_ok rel 5 v d x h1 hx, pd_ok rel 5 w e y h2 hy, hs'.1, hs'.2, ok_same rel hg _ rfl⟩
    · exact hg.elim
  · exact hg.elim
/-- is None -/
def gIsN : G2 := fun v w M => match w with | .non => .ok (.bl (decide (v = .non))) M | _ => .no
theorem k_isN : R2Ok C (fun x y H Q => y = .non ∧ Q (.bl (decide (x = .non))) H) gIsN := by
  intro q M H x y v w E Q rel hx hy hg
  unfold gIsN at hg
  split at hg
  · refine ⟨hy, ok_same rel hg _ ?_⟩
    have : decide (x = .non) = decide (v = .non) := by
      cases v <;> simp only [VR] at hx <;> first | (subst hx; simp) | (obtain ⟨p, _, rfl⟩ := hx; simp)
    rw [this]
    exact rfl
  · exact hg.elim
end
end Mini

set_option Elab.async false
set_option linter.all false
set_option maxRecDepth 100000
set_option maxHeartbeats 4000000
namespace Mini
open PySem PySem.Spec PyProof.Rows L2
section
variable {C : Nat → Addr} {W : WX} {X : Cx} {e a b c : Expr} {es : List Expr} {pos p : Pos}
/-! ### tests -/
abbrev Bk (Q : Bool → Hp → Prop) : Pl → Hp → MV → Prop := fun _ H v => ∃ b, v = .bl b ∧ Q b H
def tT (C : Nat → Addr) (W : WX) (f : EF) : TT := fun σ H Q => ∃ r env M, ER r env σ ∧ Rel C r M H ∧ Out C r (wx W σ) (f env M) (Bk Q)
theorem PT.imp {t t' : TT} (h : PT X e t) (k : ∀ σ H Q, t' σ H Q → t σ H Q) : PT X e t' := ⟨fun pins s σ H Q I q => h.run pins s σ H Q I (k σ H Q q)⟩
theorem PW.imp {t t' : TT} (h : PW X e t) (k : ∀ σ H Q, t' σ H Q → t σ H Q) : PW X e t' := ⟨fun wh pins s σ H Q I q => h.run wh pins s σ H Q I (k σ H Q q)⟩
theorem st_e {f : EF} (h : PE X e (tE C W f)) (he : ∀ whole, isTrue e X.env whole = (do let v ← whole; standAt e.pos; holding [v] (truthy v)) := by intro _; rfl) : PT X e (tT C W f) :=
  PT.imp (pt_val h he) fun σ H Q ⟨r, env, M, er, rel, o⟩ => ⟨r, env, M, er, rel, o.imp fun r1 H1 v _ ⟨b, hv, q⟩ u vr => ⟨b, by subst hv; exact vr, q⟩⟩
/-- on a bool -/
def onB (v : MV) (f : Bool → Res MV) : Res MV := match v with | .bl b => f b | _ => .no
def fAnd (fa fb : EF) : EF := fun env M => (fa env M).bnd fun v M1 => onB v fun k => bif k then fb env M1 else .ok (.bl false) M1
def fOr (fa fb : EF) : EF := fun env M => (fa env M).bnd fun v M1 => onB v fun k => bif k then .ok (.bl true) M1 else fb env M1
def fNot (fa : EF) : EF := fun env M => (fa env M).bnd fun v M1 => onB v fun k => .ok (.bl (!k)) M1
def fIf (ft fa fb : EF) : EF := fun env M => (ft env M).bnd fun v M1 => onB v fun k => bif k then fa env M1 else fb env M1
theorem onB_out {r : Pl} {E : XK} {v : MV} {f : Bool → Res MV} {K : Pl → Hp → MV → Prop} (o : Out C r E (onB v f) K) : ∃ b, v = .bl b ∧ Out C r E (f b) K := by
  cases v with
  | bl b => exact ⟨b, rfl, o⟩
  | _ => exact o.elim
theorem se_one {op} {f : EF} (h : PE X a (tE C W f)) : PE X (.BoolOp op [a] pos) (tE C W f) := pe_one h
theorem se_and {rest : List Expr} {fa fb : EF} (ha : PE X a (tE C W fa)) (hb : PE X (.BoolOp .And (b :: rest) pos) (tE C W fb)) : PE X (.BoolOp .And (a :: b :: rest) pos) (tE C W (fAnd fa fb)) :=
  PE.imp (pe_and ha hb) fun σ H Q ⟨r, env, M, er, rel, o⟩ => ⟨r, env, M, er, rel, o.bnd.imp fun r1 H1 v _ ⟨M1, p1, rel1, o1⟩ u vr1 => by
    obtain ⟨k, rfl, o2⟩ := onB_out o1
    refine ⟨k, vr1, ?_⟩
    cases k with
    | true => rw [if_pos rfl]; exact ⟨r1, env, M1, er.mono p1, rel1, o2⟩
    | false => rw [if_neg (by decide)]; exact ok_same rel1 o2 _ rfl⟩
theorem se_or {rest : List Expr} {fa fb : EF} (ha : PE X a (tE C W fa)) (hb : PE X (.BoolOp .Or (b :: rest) pos) (tE C W fb)) : PE X (.BoolOp .Or (a :: b :: rest) pos) (tE C W (fOr fa fb)) :=
  PE.imp (pe_or ha hb) fun σ H Q ⟨r, env, M, er, rel, o⟩ => ⟨r, env, M, er, rel, o.bnd.imp fun r1 H1 v _ ⟨M1, p1, rel1, o1⟩ u vr1 => by
    obtain ⟨k, rfl, o2⟩ := onB_out o1
    refine ⟨k, vr1, ?_⟩
    cases k with
    | false => rw [if_neg (by decide)]; exact ⟨r1, env, M1, er.mono p1, rel1, o2⟩
    | true => rw [if_pos rfl]; exact ok_same rel1 o2 _ rfl⟩
theorem se_not {fa : EF} (ha : PE X a (tE C W fa)) : PE X (.UnaryOp .Not a pos) (tE C W (fNot fa)) :=
  PE.imp (pe_not ha) fun σ H Q ⟨r, env, M, er, rel, o⟩ => ⟨r, env, M, er, rel, o.bnd.imp fun r1 H1 v _ ⟨M1, p1, rel1, o1⟩ u vr1 => by
    obtain ⟨k, rfl, o2⟩ := onB_out o1
    exact ⟨k, vr1, ok_same rel1 o2 _ rfl⟩⟩
theorem st_not {fa : EF} (ha : PT X a (tT C W fa)) : PT X (.UnaryOp .Not a pos) (tT C W (fNot fa)) :=
  PT.imp (pt_not ha) fun σ H Q ⟨r, env, M, er, rel, o⟩ => ⟨r, env, M, er, rel, o.bnd.imp fun r1 H1 v _ ⟨M1, p1, rel1, o1⟩ => by
    obtain ⟨k, rfl, o2⟩ := onB_out o1
    obtain ⟨b, hb, q⟩ := ok_same rel1 o2
    cases hb
    exact ⟨k, rfl, q⟩⟩
theorem sw_one {op} {f : EF} (h : PT X a (tT C W f)) (ho : op = .And ∨ op = .Or) : PW X (.BoolOp op [a] pos) (tT C W f) := by
  rcases ho with rfl | rfl
  · exact pw_and1 h
  · exact pw_or1 h
theorem sw_and {rest : List Expr} {fa fb : EF} (ha : PT X a (tT C W fa)) (hb : PW X (.BoolOp .And (b :: rest) pos) (tT C W fb)) : PW X (.BoolOp .And (a :: b :: rest) pos) (tT C W (fAnd fa fb)) :=
  PW.imp (pw_and ha hb) fun σ H Q ⟨r, env, M, er, rel, o⟩ => ⟨r, env, M, er, rel, o.bnd.imp fun r1 H1 v _ ⟨M1, p1, rel1, o1⟩ => by
    obtain ⟨k, rfl, o2⟩ := onB_out o1
    refine ⟨k, rfl, ?_⟩
    cases k with
    | true => rw [if_pos rfl]; exact ⟨r1, env, M1, er.mono p1, rel1, o2⟩
    | false =>
      rw [if_neg (by decide)]
      obtain ⟨b, hb, q⟩ := ok_same rel1 o2
      cases hb
      exact q⟩
theorem sw_or {rest : List Expr} {fa fb : EF} (ha : PT X a (tT C W fa)) (hb : PW X (.BoolOp .Or (b :: rest) pos) (tT C W fb)) : PW X (.BoolOp .Or (a :: b :: rest) pos) (tT C W (fOr fa fb)) :=
  PW.imp (pw_or ha hb) fun σ H Q ⟨r, env, M, er, rel, o⟩ => ⟨r, env, M, er, rel, o.bnd.imp fun r1 H1 v _ ⟨M1, p1, rel1, o1⟩ => by
    obtain ⟨k, rfl, o2⟩ := onB_out o1
    refine ⟨k, rfl, ?_⟩
    cases k with
    | false => rw [if_neg (by decide)]; exact ⟨r1, env, M1, er.mono p1, rel1, o2⟩
    | true =>
      rw [if_pos rfl]
      obtain ⟨b, hb, q⟩ := ok_same rel1 o2
      cases hb
      exact q⟩
theorem st_w {f : EF} (h : PW X e (tT C W f)) : PT X e (tT C W f) := h.pt
theorem se_if {ft fa fb : EF} (ht : PT X c (tT C W ft)) (ha : PE X a (tE C W fa)) (hb : PE X b (tE C W fb)) : PE X (.IfExp c a b pos) (tE C W (fIf ft fa fb)) :=
  PE.imp (pe_ifExp ht ha hb) fun σ H Q ⟨r, env, M, er, rel, o⟩ => ⟨r, env, M, er, rel, o.bnd.imp fun r1 H1 v _ ⟨M1, p1, rel1, o1⟩ => by
    obtain ⟨k, rfl, o2⟩ := onB_out o1
    refine ⟨k, rfl, ?_⟩
    cases k with
    | true => rw [if_pos rfl]; exact ⟨r1, env, M1, er.mono p1, rel1, o2⟩
    | false => rw [if_neg (by decide)]; exact ⟨r1, env, M1, er.mono p1, rel1, o2⟩⟩
/-! ### displays -/
def fTup (fa : AF) : EF := fun env M => (fa env M).bnd fun vs M1 => if vs.length ≤ big then .ok (.ref M1.length) (M1 ++ [.tup vs]) else .no
def fLst (fa : AF) : EF := fun env M => (fa env M).bnd fun vs M1 => if vs.length ≤ big then .ok (.ref M1.length) (M1 ++ [.lst vs]) else .no
theorem se_tup {fa : AF} {x1} (ha : PA X es (tA C W fa)) : PE X (.Tuple es x1 pos) (tE C W (fTup fa)) :=
  PE.imp (pe_tup ha) fun σ H Q ⟨r, env, M, er, rel, o⟩ => ⟨r, env, M, er, rel, o.bnd.imp fun r1 H1 vs _ ⟨M1, p1, rel1, o1⟩ us vr1 => by
    split at o1
    · rename_i hz
      exact ⟨by rw [← vr1.len]; exact big_ok hz, fun q hq => o1 (r1 ++ [q]) _ (List.prefix_append _ _) (rel1.newTup hq vr1) _ rel1.place⟩
    · exact o1.elim⟩
theorem se_lst {fa : AF} (ha : PA X es (tA C W fa)) : PE X (.List es pos) (tE C W (fLst fa)) :=
  PE.imp (pe_lst ha) fun σ H Q ⟨r, env, M, er, rel, o⟩ => ⟨r, env, M, er, rel, o.bnd.imp fun r1 H1 vs _ ⟨M1, p1, rel1, o1⟩ us vr1 => by
    split at o1
    · rename_i hz
      exact ⟨by rw [← vr1.len]; exact big_ok hz, fun q hq => o1 (r1 ++ [q]) _ (List.prefix_append _ _) (rel1.newLst hq vr1) _ rel1.place⟩
    · exact o1.elim⟩
/-! ### calls by values -/
abbrev GA := List MV → Store → Res MV
def fAp (g : GA) (fa : AF) : EF := fun env M => (fa env M).bnd fun vs M1 => g vs M1
def RCOk (C : Nat → Addr) (r : List V → Hp → VK → Prop) (g : GA) : Prop := ∀ (q : Pl) (M : Store) (H : Hp) (xs : List V) (vs : List MV) (E : XK) (Q : VK), Rel C q M H → VRs q vs xs → Out C q E (g vs M) (Vk Q) → r xs H Q
theorem ap_imp {r : List V → Hp → VK → Prop} {g : GA} (k : RCOk C r g) {fa : AF} (σ : L2.St) (H : Hp) (Q : VK) (h : tE C W (fAp g fa) σ H Q) : tCB r (tA C W fa) σ H Q := by
  obtain ⟨q, env, M, er, rel, o⟩ := h
  exact ⟨q, env, M, er, rel, o.bnd.imp fun r1 H1 vs _ ⟨M1, p1, rel1, o1⟩ xs vr1 => k r1 M1 H1 xs vs _ Q rel1 vr1 o1⟩
theorem se_callB {id : String} {x : Str} {r : List V → Hp → VK → Prop} {g : GA} {fa : AF} (hc : CallR X (.builtin id) r) (k : RCOk C r g) (hg : Gl X x) (hm : X.mg x = none) (hv : bootBuiltins x = some (.builtin id)) (ha : PA X (e :: es) (tA C W fa)) (hn : x ≠ "__name__" := by decide) (hdb : (x == ("__debug__" : Str)) = false := by decide)
    (he : starEach (e :: es) X.env = (false, eval e X.env) :: starEach es X.env := by rfl) (hpl : (backTo pos (starEach es X.env)).any (·.1) = false := by rfl) : PE X (.Call (.Name x p) (e :: es) [] pos) (tE C W (fAp g fa)) :=
  PE.imp (pe_callB hc hg hm hv ha hn hdb he hpl) (ap_imp k)
theorem se_callTy {T : String} {x : Str} {r : List V → Hp → VK → Prop} {g : GA} {fa : AF} (hc : CallR X (.type T) r) (k : RCOk C r g) (hg : Gl X x) (hm : X.mg x = none) (hv : bootBuiltins x = some (.type T)) (ha : PA X (e :: es) (tA C W fa)) (hn : x ≠ "__name__" := by decide) (hdb : (x == ("__debug__" : Str)) = false := by decide)
    (he : starEach (e :: es) X.env = (false, eval e X.env) :: starEach es X.env := by rfl) (hpl : (backTo pos (starEach es X.env)).any (·.1) = false := by rfl) : PE X (.Call (.Name x p) (e :: es) [] pos) (tE C W (fAp g fa)) :=
  PE.imp (pe_callTy hc hg hm hv ha hn hdb he hpl) (ap_imp k)
def gLen : GA := fun vs M => match vs with
  | [.ref a] => (match M[a]? with
    | some (.lst xs) => .ok (.int xs.length) M
    | some (.tup xs) => .ok (.int xs.length) M
    | some (.rl xs) => .ok (.int xs.length) M
    | _ => .no)
  | _ => .no
theorem VRs.one {q : Pl} {v : MV} {xs : List V} (h : VRs q [v] xs) : ∃ x, xs = [x] ∧ VR q v x := by
  cases h with
  | cons x t => cases t; exact ⟨_, rfl, x⟩
theorem VRs.two {q : Pl} {v w : MV} {xs : List V} (h : VRs q [v, w] xs) : ∃ x y, xs = [x, y] ∧ VR q v x ∧ VR q w y := by
  cases h with
  | cons x t =>
    obtain ⟨y, rfl, h2⟩ := VRs.one t
    exact ⟨_, y, rfl, x, h2⟩
theorem k_len {K : PySem.W.Frag} : RCOk C (fun xs H Q => ∃ p ys, xs = [.ref p] ∧ (SqL K H p ys ∨ SqT K H p ys) ∧ Q (.int ys.length) H) gLen := by
  intro q M H xs vs E Q rel hv hg
  unfold gLen at hg
  split at hg
  · rename_i a
    obtain ⟨x, rfl, hx⟩ := hv.one
    split at hg
    · rename_i ys ea
      obtain ⟨p, us, rfl, _, vr, hp⟩ := rel.lst hx ea
      exact ⟨p, us, rfl, .inl (SqL.of hp), ok_same rel hg _ (by rw [vr.len]; exact rfl)⟩
    · rename_i ys ea
      obtain ⟨p, us, rfl, _, vr, hp⟩ := rel.tup hx ea
      exact ⟨p, us, rfl, .inr (SqT.of hp), ok_same rel hg _ (by rw [vr.len]; exact rfl)⟩
    · rename_i ys ea
      obtain ⟨p, us, rfl, _, vr, hp⟩ := rel.rl hx ea
      exact ⟨p, us, rfl, .inl (SqL.frz hp), ok_same rel hg _ (by rw [vr.len]; exact rfl)⟩
    · exact hg.elim
  · exact hg.elim
def gInt : GA := fun vs M => match vs with
  | [.int i] => .ok (.int i) M
  | _ => .no
theorem k_int : RCOk C (fun xs H Q => (∃ i, xs = [.int i] ∧ Q (.int i) H) ∨ ∃ k, xs = [.bl k] ∧ Q (.int (if k then 1 else 0)) H) gInt := by
  intro q M H xs vs E Q rel hv hg
  unfold gInt at hg
  split at hg
  · rename_i i
    obtain ⟨x, rfl, hx⟩ := hv.one
    cases hx
    exact .inl ⟨i, rfl, ok_same rel hg _ rfl⟩
  · exact hg.elim
def gList : GA := fun vs M => match vs with
  | [.ref a] => (match M[a]? with
    | some (.lst xs) => .ok (.ref M.length) (M ++ [.lst xs])
    | some (.tup xs) => .ok (.ref M.length) (M ++ [.lst xs])
    | some (.rl xs) => .ok (.ref M.length) (M ++ [.lst xs])
    | _ => .no)
  | _ => .no
theorem k_list {K : PySem.W.Frag} : RCOk C (fun xs H Q => ∃ p ys, xs = [.ref p] ∧ (SqL K H p ys ∨ SqT K H p ys) ∧ ∀ l, H l = none → Q (.ref l) (upd H l (.lst ys))) gList := by
  intro q M H xs vs E Q rel hv hg
  unfold gList at hg
  split at hg
  · rename_i a
    obtain ⟨x, rfl, hx⟩ := hv.one
    split at hg
    · rename_i ys ea
      obtain ⟨p, us, rfl, _, vr, hp⟩ := rel.lst hx ea
      exact ⟨p, us, rfl, .inl (SqL.of hp), fun l hl => hg (q ++ [l]) _ (List.prefix_append _ _) (rel.newLst hl vr) _ rel.place⟩
    · rename_i ys ea
      obtain ⟨p, us, rfl, _, vr, hp⟩ := rel.tup hx ea
      exact ⟨p, us, rfl, .inr (SqT.of hp), fun l hl => hg (q ++ [l]) _ (List.prefix_append _ _) (rel.newLst hl vr) _ rel.place⟩
    · rename_i ys ea
      obtain ⟨p, us, rfl, _, vr, hp⟩ := rel.rl hx ea
      exact ⟨p, us, rfl, .inl (SqL.frz hp), fun l hl => hg (q ++ [l]) _ (List.prefix_append _ _) (rel.newLst hl vr) _ rel.place⟩
    · exact hg.elim
  · exact hg.elim
def bools : List MV → Option (List Bool)
  | [] => some []
  | .bl b :: r => (bools r).map (b :: ·)
  | _ => none
theorem bools_ok {q : Pl} : ∀ {vs : List MV} {bs : List Bool} {us : List V}, bools vs = some bs → VRs q vs us → us = bs.map V.bl
  | [], _, _, h, .nil => by cases h; rfl
  | .bl b :: r, bs, u :: us, h, .cons x xs => by
    unfold bools at h
    cases k : bools r with
    | none => rw [k] at h; cases h
    | some bs' =>
      rw [k] at h
      cases h
      cases x
      rw [bools_ok k xs]
      rfl
def gAll : GA := fun vs M => match vs with
  | [.ref a] => (match M[a]? with
    | some (.lst xs) => (match bools xs with | some bs => .ok (.bl (bs.all id)) M | none => .no)
    | _ => .no)
  | _ => .no
theorem k_all {K : PySem.W.Frag} : RCOk C (rAll K) gAll := by
  intro q M H xs vs E Q rel hv hg
  unfold gAll at hg
  split at hg
  · rename_i a
    obtain ⟨x, rfl, hx⟩ := hv.one
    split at hg
    · rename_i ys ea
      split at hg
      · rename_i bs hb
        obtain ⟨p, us, rfl, _, vr, hp⟩ := rel.lst hx ea
        have e := bools_ok hb vr
        subst e
        exact ⟨p, bs, rfl, SqL.of hp, ok_same rel hg _ rfl⟩
      · exact hg.elim
    · exact hg.elim
  · exact hg.elim
/-! ### slices of lists -/
abbrev OF := Env' → Store → Res (Option Int)
def tO (C : Nat → Addr) (W : WX) (f : OF) : TO := fun σ H Q => ∃ r env M, ER r env σ ∧ Rel C r M H ∧ Out C r (wx W σ) (f env M) fun _ H o => Q o H
def fNoP : OF := fun _ M => .ok none M
def fPart (fa : EF) : OF := fun env M => (fa env M).bnd fun v M1 => match v with | .int i => .ok (some i) M1 | _ => .no
theorem PO.imp {o : Option Expr} {t t' : TO} (h : PO X o t) (k : ∀ σ H Q, t' σ H Q → t σ H Q) : PO X o t' := ⟨fun pins s σ H Q I q => h.run pins s σ H Q I (k σ H Q q)⟩
theorem so_none : PO X none (tO C W fNoP) := PO.imp po_none fun σ H Q ⟨r, env, M, er, rel, o⟩ => ok_same rel o
theorem so_some {fa : EF} (h : PE X e (tE C W fa)) : PO X (some e) (tO C W (fPart fa)) := PO.imp (po_some h) fun σ H Q ⟨r, env, M, er, rel, o⟩ => ⟨r, env, M, er, rel, o.bnd.imp fun r1 H1 v _ ⟨M1, p1, rel1, o1⟩ u vr => by
  cases v with
  | int i => exact ⟨i, vr, ok_same rel1 o1⟩
  | _ => exact o1.elim⟩
def cut' (xs : List MV) (lo hi : Option Int) : List MV := (xs.drop (HT.sIx xs.length 0 lo)).take (HT.sIx xs.length xs.length hi - HT.sIx xs.length 0 lo)
theorem VRs.cut {q : Pl} {xs : List MV} {us : List V} (h : VRs q xs us) (lo hi : Option Int) : VRs q (cut' xs lo hi) (cutV us lo hi) := by
  unfold cut' cutV
  rw [← h.len]
  exact (h.drop _).take _
def slcL (v : MV) (lo hi : Option Int) (M : Store) : Res MV := match v with
  | .ref a => (match M[a]? with
    | some (.lst xs) => .ok (.ref M.length) (M ++ [.lst (cut' xs lo hi)])
    | some (.rl xs) => .ok (.ref M.length) (M ++ [.lst (cut' xs lo hi)])
    | _ => .no)
  | _ => .no
def fSl (fa : EF) (fl fh : OF) : EF := fun env M => (fa env M).bnd fun v M1 => (fl env M1).bnd fun lo M2 => (fh env M2).bnd fun hi M3 => slcL v lo hi M3
theorem se_sl {fa : EF} {fl fh : OF} {lo hi : Option Expr} {p2 : Pos} (ha : PE X a (tE C W fa)) (hl : PO X lo (tO C W fl)) (hh : PO X hi (tO C W fh)) : PE X (.Subscript a (.Slice lo hi none p2) pos) (tE C W (fSl fa fl fh)) :=
  PE.imp (pe_slice sl_list ha hl hh) fun σ H Q ⟨r, env, M, er, rel, o⟩ => ⟨r, env, M, er, rel, o.bnd.imp fun r1 H1 v _ ⟨M1, p1, rel1, o1⟩ u vr1 => ⟨r1, env, M1, er.mono p1, rel1, o1.bnd.imp fun r2 H2 lo _ ⟨M2, p2, rel2, o2⟩ =>
    ⟨r2, env, M2, (er.mono p1).mono p2, rel2, o2.bnd.imp fun r3 H3 hi _ ⟨M3, p3, rel3, o3⟩ => by
      have vr3 := (vr1.mono p2).mono p3
      unfold slcL at o3
      cases v with
      | ref a =>
        simp only at o3
        split at o3
        · rename_i xs ea
          obtain ⟨p, us, rfl, _, vr, hp⟩ := rel3.lst vr3 ea
          exact ⟨p, us, rfl, SqL.of hp, fun l hl => o3 (r3 ++ [l]) _ (List.prefix_append _ _) (rel3.newLst hl (vr.cut lo hi)) _ rel3.place⟩
        · rename_i xs ea
          obtain ⟨p, us, rfl, _, vr, hp⟩ := rel3.rl vr3 ea
          exact ⟨p, us, rfl, SqL.frz hp, fun l hl => o3 (r3 ++ [l]) _ (List.prefix_append _ _) (rel3.newLst hl (vr.cut lo hi)) _ rel3.place⟩
        · exact o3.elim
      | _ => exact o3.elim⟩⟩⟩
/-! ### defs -/
/-- what a def promises: on n values it ends as g says -/
def spF (C : Nat → Addr) (g : GA) (n : Nat) : Sp := fun vs H Q E => vs.length = n ∧ ∃ r ws M, VRs r ws vs ∧ Rel C r M H ∧ Out C r E (g ws M) (Vk Q)
/-- a callee's exception in the air of the caller -/
theorem run_fnX {k : Nat} {f : Addr} {fd : FuncData} {ps : List Str} {sp : Sp} {pins : List (Addr × Obj)} {σ : L2.St} {H : Hp} {s : Shared} {Q : VK} {us : List Value} {vs : List V} (F : FnOk X.prog X.w X.K X.mg X.base (L2.CX X.prog X.w) k f fd ps sp) (hr : Room k X.A) (tk : Takes X W)
    {ds : List Value} {dvs : List V} (hb : Binds X.K fd ps ds) (hd : Vals dvs ds) (I : Inv X pins σ H s) (r : Vals vs us) (h : sp (vs ++ dvs) H Q (wx W σ)) : wpAny (model X.prog X.w) X.A (call (.ref f) us) (EP X pins σ Q) X.xe s := by
  have r2 : Vals (vs ++ dvs) (us ++ ds) := r.append hd
  have hl : (us ++ ds).length = ps.length := r2.length.symm.trans (F.len _ _ _ _ h)
  refine wpAny_call (codeAny_mono (F.run X.A X.stack s H ⟨us, []⟩ (us ++ ds) (vs ++ dvs) Q _ hr I.env0 (hb s us I.kIn hl) r2 h) fun z s' hq => ?_)
  cases z with
  | error e => exact tk e s' (XE.of_call I (fun _ _ _ q => q) hq)
  | ok fl =>
    cases fl with
    | ret u => exact I.after hq
    | next => exact hq.elim
    | brk => exact hq.elim
    | cont => exact hq.elim
/-- a def of the module under its name, by what it computes; dfl: the values of the defaults -/
structure Fn (P : Program) (w : World) (K : PySem.W.Frag) (mg : Str → Option Value) (base : Heap) (C : Nat → Addr) (k : Nat) (x : Str) (g : GA) (n : Nat) : Prop where
  ex : ∃ (f : Addr) (fd : FuncData) (ps : List Str), FnOk P w K mg base (L2.CX P w) k f fd ps (spF C g n) ∧ mg x = some (.ref f) ∧ PySem.W.keepIn K (.ref f) = true ∧ Binds K fd ps []
theorem se_call {k j : Nat} {g : GA} {n : Nat} {x : Str} {fa : AF} (F : Fn X.prog X.w X.K X.mg X.base C k x g n) (hr : Room j X.A) (hk : k ≤ j) (tk : Takes X W) (hg : Gl X x)
    (ha : PA X (e :: es) (tA C W fa)) (hfa : ∀ env M vs M', fa env M = .ok vs M' → vs.length = n) (hdb : (x == ("__debug__" : Str)) = false := by decide) (he : starEach (e :: es) X.env = (false, eval e X.env) :: starEach es X.env := by rfl) (hpl : (backTo pos (starEach es X.env)).any (·.1) = false := by rfl) :
    PE X (.Call (.Name x p) (e :: es) [] pos) (tE C W (fAp g fa)) := by
  obtain ⟨f, fd, ps, F1, hm, hkp, hb⟩ := F.ex
  refine ⟨fun pins s σ H Q I ⟨r, env, M, er, rel, o⟩ => wpAny_Call_Name_kw (ld_glob I hg hm ?_ hdb)⟩
  refine PySem.W.callWith_K (h₀ := X.base) I.ok.mod.kin hkp (thn (ha.run pos pins s σ H (fun vs H1 => spF C g n (vs ++ []) H1 Q (wx W σ)) I ⟨r, env, M, er, rel, ?_⟩) fun us s1 ⟨vs, H1, I1, r1, q⟩ => ⟨I1.kIn, run_fnX F1 (hr.mono hk) tk hb .nil I1 r1 q⟩) he hpl
  have hl := hfa env M
  unfold fAp at o
  cases hz : fa env M with
  | no => rw [hz] at o; exact o.elim
  | ex c fs M1 => rw [hz] at o; exact o
  | ok vs M1 =>
    rw [hz] at o
    exact fun r1 H1 p1 rel1 us vr1 => ⟨by rw [List.append_nil, ← vr1.len]; exact hl _ _ hz, r1, vs, M1, by rw [List.append_nil]; exact vr1, rel1, Out.mono p1 (z := g vs M1) o⟩
theorem se_call0 {k j : Nat} {g : GA} {x : Str} (F : Fn X.prog X.w X.K X.mg X.base C k x g 0) (hr : Room j X.A) (hk : k ≤ j) (tk : Takes X W) (hg : Gl X x) (hdb : (x == ("__debug__" : Str)) = false := by decide) : PE X (.Call (.Name x p) [] [] pos) (tE C W (fAp g fNil)) := by
  obtain ⟨f, fd, ps, F1, hm, hkp, hb⟩ := F.ex
  exact ⟨fun pins s σ H Q I ⟨r, env, M, er, rel, o⟩ => wpAny_Call_Name_kw (ld_glob I hg hm (PySem.W.callWith_K0 I.kIn hkp (run_fnX (us := []) (vs := []) F1 (hr.mono hk) tk hb .nil I .nil ⟨rfl, r, [], M, .nil, rel, o⟩)) hdb)⟩
theorem len_nil : ∀ env M vs M', fNil env M = .ok vs M' → vs.length = 0 := fun _ _ _ _ h => by cases h; rfl
theorem len_cons {fa : EF} {fr : AF} {n : Nat} (h : ∀ env M vs M', fr env M = .ok vs M' → vs.length = n) : ∀ env M vs M', fCons fa fr env M = .ok vs M' → vs.length = n + 1 := fun env M vs M' q => by
  unfold fCons at q
  cases h1 : fa env M with
  | no => rw [h1] at q; cases q
  | ex c fs M1 => rw [h1] at q; cases q
  | ok v M1 =>
    rw [h1] at q
    change (fr env M1).bnd _ = _ at q
    cases h2 : fr env M1 with
    | no => rw [h2] at q; cases q
    | ex c fs M2 => rw [h2] at q; cases q
    | ok ws M2 =>
      rw [h2] at q
      cases q
      rw [List.length_cons, h _ _ _ _ h2]
end
end Mini

set_option Elab.async false
set_option linter.all false
set_option maxRecDepth 100000
set_option maxHeartbeats 4000000
namespace Mini
open PySem PySem.Spec PyProof.Rows L2 RZ
theorem VR.det {r : Pl} {v : MV} {u u' : V} (h : VR r v u) (h' : VR r v u') : u = u' := by
  cases v with
  | ref a =>
    obtain ⟨p, e, rfl⟩ := h
    obtain ⟨p', e', rfl⟩ := h'
    rw [e] at e'
    cases e'
    rfl
  | _ => exact Eq.trans (show u = _ from h) (show u' = _ from h').symm
theorem VRs.det {r : Pl} : ∀ {vs : List MV} {us us' : List V}, VRs r vs us → VRs r vs us' → us = us'
  | _, _, _, .nil, .nil => rfl
  | _, _, _, .cons x xs, .cons y ys => by rw [x.det y, VRs.det xs ys]
/-! ### what is walked -/
inductive Src where
  | list (a : Nat) (xs : List MV) | rl (a : Nat) (xs : List MV) | tup (a : Nat) (xs : List MV) | rng (lo : Int) (n : Nat)
  | zipL (a b : Nat) (xs ys : List MV) | zipT (a b : Nat) (xs ys : List MV)
inductive Item where
  | one (v : MV) | two (v w : MV)
def zip2 : List MV → List MV → List Item
  | x :: xs, y :: ys => .two x y :: zip2 xs ys
  | _, _ => []
def rngI (lo : Int) : Nat → List Item
  | 0 => []
  | n + 1 => .one (.int lo) :: rngI (lo + 1) n
def items : Src → List Item
  | .list _ xs => xs.map .one
  | .rl _ xs => xs.map .one
  | .tup _ xs => xs.map .one
  | .rng lo n => rngI lo n
  | .zipL _ _ xs ys => zip2 xs ys
  | .zipT _ _ xs ys => zip2 xs ys
def guard : Src → Store → Bool
  | .list a xs, M => decide (M[a]? = some (.lst xs))
  | .rl a xs, M => decide (M[a]? = some (.rl xs))
  | .tup a xs, M => decide (M[a]? = some (.tup xs))
  | .rng _ _, _ => true
  | .zipL a b xs ys, M => decide (M[a]? = some (.lst xs)) && decide (M[b]? = some (.lst ys))
  | .zipT a b xs ys, M => decide (M[a]? = some (.tup xs)) && decide (M[b]? = some (.tup ys))
theorem rngI_len : ∀ n lo, (rngI lo n).length = n
  | 0, _ => rfl
  | n + 1, lo => by unfold rngI; rw [List.length_cons, rngI_len n]
theorem rngI_get : ∀ n lo i, i < n → (rngI lo n)[i]? = some (.one (.int (lo + i)))
  | 0, _, _, h => absurd h (Nat.not_lt_zero _)
  | n + 1, lo, 0, _ => by unfold rngI; simp
  | n + 1, lo, i + 1, h => by
    unfold rngI
    rw [List.getElem?_cons_succ, rngI_get n (lo + 1) i (by omega)]
    congr 3
    omega
theorem zip2_len : ∀ xs ys, (zip2 xs ys).length = min xs.length ys.length
  | [], ys => by unfold zip2; simp
  | x :: xs, [] => by unfold zip2; simp
  | x :: xs, y :: ys => by unfold zip2; rw [List.length_cons, zip2_len xs ys, List.length_cons, List.length_cons]; omega
theorem zip2_get : ∀ (xs ys : List MV) (i : Nat) (x y : MV), xs[i]? = some x → ys[i]? = some y → (zip2 xs ys)[i]? = some (.two x y)
  | [], _, _, _, _, h, _ => by simp at h
  | _ :: _, [], _, _, _, _, h => by simp at h
  | a :: xs, b :: ys, 0, x, y, h, h' => by unfold zip2; simp at h h' ⊢; exact ⟨h, h'⟩
  | a :: xs, b :: ys, i + 1, x, y, h, h' => by
    unfold zip2
    rw [List.getElem?_cons_succ]
    exact zip2_get xs ys i x y (by simpa using h) (by simpa using h')
section
variable (C : Nat → Addr)
def GI (r0 : Pl) (s : Src) (H : Hp) : Prop := ∃ r' M', r0 <+: r' ∧ Rel C r' M' H ∧ guard s M' = true
def YI (r0 : Pl) (s : Src) (i : Nat) (H : Hp) (x : V) (H' : Hp) : Prop := match (items s)[i]? with
  | some (.one v) => H' = H ∧ VR r0 v x
  | some (.two v w) => ∃ (T : Addr) (a b : V), x = .ref T ∧ H T = none ∧ H' = upd H T (.tup [a, b]) ∧ VR r0 v a ∧ VR r0 w b
  | none => False
def ItOk (r0 : Pl) (s : Src) (J : It) : Prop := Walk J (items s).length (GI C r0 s) (YI r0 s)
end
section
variable {C : Nat → Addr} {W : WX} {X : Cx} {e a b c tg iter : Expr} {es : List Expr} {pos p : Pos} {K : PySem.W.Frag}
theorem gi_lst {r0 : Pl} {s : Src} {H : Hp} {a : Nat} {p : Nat} {xs : List MV} {us : List V} (hp : r0[a]? = some p) (vr : VRs r0 xs us) {r' : Pl} {M' : Store} (pre : r0 <+: r') (rel : Rel C r' M' H) (e : M'[a]? = some (.lst xs)) : SqL K H p us := by
  obtain ⟨us', v', e'⟩ := rel.at_ a p _ (pre_get pre hp) e
  rw [(vr.mono pre).det v']
  exact SqL.of e'
theorem gi_tup {r0 : Pl} {s : Src} {H : Hp} {a : Nat} {p : Nat} {xs : List MV} {us : List V} (hp : r0[a]? = some p) (vr : VRs r0 xs us) {r' : Pl} {M' : Store} (pre : r0 <+: r') (rel : Rel C r' M' H) (e : M'[a]? = some (.tup xs)) : SqT K H p us := by
  obtain ⟨us', v', e'⟩ := rel.at_ a p _ (pre_get pre hp) e
  rw [(vr.mono pre).det v']
  exact SqT.of e'
theorem gi_rl {r0 : Pl} {s : Src} {H : Hp} {a : Nat} {p : Nat} {xs : List MV} {us : List V} (hp : r0[a]? = some p) (vr : VRs r0 xs us) {r' : Pl} {M' : Store} (pre : r0 <+: r') (rel : Rel C r' M' H) (e : M'[a]? = some (.rl xs)) : SqL K H p us := by
  obtain ⟨us', v', e'⟩ := rel.at_ a p _ (pre_get pre hp) e
  rw [(vr.mono pre).det v']
  exact SqL.frz e'
theorem y_one {r0 : Pl} {s : Src} {xs : List MV} {us : List V} (hs : items s = xs.map .one) (vr : VRs r0 xs us) {i : Nat} {H : Hp} {x : V} {H' : Hp} (h : YAt us i H x H') : YI r0 s i H x H' := by
  obtain ⟨e, hx⟩ := h
  unfold YI
  rw [hs, List.getElem?_map]
  cases k : xs[i]? with
  | none =>
    exfalso
    have h1 : xs.length ≤ i := List.getElem?_eq_none_iff.mp k
    have h2 := (List.getElem?_eq_some_iff.mp hx).1
    rw [← vr.len] at h2
    omega
  | some v =>
    obtain ⟨u, h1, h2⟩ := vr.get k
    rw [hx] at h1
    cases h1
    exact ⟨e, h2⟩
theorem it_list {r0 : Pl} {a p : Nat} {xs : List MV} {us : List V} (hp : r0[a]? = some p) (vr : VRs r0 xs us) : ItOk C r0 (.list a xs) (Itl K p) := by
  unfold ItOk
  have hl : (items (.list a xs)).length = us.length := by unfold items; rw [List.length_map, vr.len]
  rw [hl]
  exact (walk_list (K := K) (a := p) (xs := us)).mono (fun H ⟨r', M', pre, rel, g⟩ => gi_lst (s := .list a xs) hp vr pre rel (of_decide_eq_true g)) fun i H x H' _ _ y => y_one rfl vr y
theorem it_rl {r0 : Pl} {a p : Nat} {xs : List MV} {us : List V} (hp : r0[a]? = some p) (vr : VRs r0 xs us) : ItOk C r0 (.rl a xs) (Itl K p) := by
  unfold ItOk
  have hl : (items (.rl a xs)).length = us.length := by unfold items; rw [List.length_map, vr.len]
  rw [hl]
  exact (walk_list (K := K) (a := p) (xs := us)).mono (fun H ⟨r', M', pre, rel, g⟩ => gi_rl (s := .rl a xs) hp vr pre rel (of_decide_eq_true g)) fun i H x H' _ _ y => y_one rfl vr y
theorem it_tup {r0 : Pl} {a p : Nat} {xs : List MV} {us : List V} (hp : r0[a]? = some p) (vr : VRs r0 xs us) : ItOk C r0 (.tup a xs) (Itt K p) := by
  unfold ItOk
  have hl : (items (.tup a xs)).length = us.length := by unfold items; rw [List.length_map, vr.len]
  rw [hl]
  exact (walk_tup (K := K) (a := p) (xs := us)).mono (fun H ⟨r', M', pre, rel, g⟩ => gi_tup (s := .tup a xs) hp vr pre rel (of_decide_eq_true g)) fun i H x H' _ _ y => y_one rfl vr y
theorem it_rng {r0 : Pl} {lo : Int} {n : Nat} : ItOk C r0 (.rng lo n) (Itr lo n) := by
  unfold ItOk
  have hl : (items (.rng lo n)).length = n := rngI_len n lo
  rw [hl]
  refine (walk_range (lo := lo) (n := n)).mono (fun _ _ => True.intro) fun i H x H' hi _ y => ?_
  obtain ⟨h1, h2⟩ := y
  unfold YI
  show match (rngI lo n)[i]? with | some (.one v) => _ | some (.two v w) => _ | none => _
  rw [rngI_get n lo i hi]
  exact ⟨h1, h2⟩
theorem y_two {r0 : Pl} {s : Src} {xs ys : List MV} {us ws : List V} (hs : items s = zip2 xs ys) (vx : VRs r0 xs us) (vy : VRs r0 ys ws) {i : Nat} {H : Hp} {x : V} {H' : Hp} (h : YPair (fun i => us[i]?) (fun i => ws[i]?) i H x H') : YI r0 s i H x H' := by
  obtain ⟨T, u, w, e1, e2, e3, e4, e5⟩ := h
  have h4 := (List.getElem?_eq_some_iff.mp e4).1
  have h5 := (List.getElem?_eq_some_iff.mp e5).1
  rw [← vx.len] at h4
  rw [← vy.len] at h5
  have k1 : xs[i]? = some xs[i] := List.getElem?_eq_getElem h4
  have k2 : ys[i]? = some ys[i] := List.getElem?_eq_getElem h5
  obtain ⟨u', f1, g1⟩ := vx.get k1
  obtain ⟨w', f2, g2⟩ := vy.get k2
  have e4' : us[i]? = some u := e4
  have e5' : ws[i]? = some w := e5
  rw [e4'] at f1
  rw [e5'] at f2
  cases f1
  cases f2
  unfold YI
  rw [hs, zip2_get xs ys i _ _ k1 k2]
  exact ⟨T, u, w, e1, e2, e3, g1, g2⟩
theorem it_zipL {r0 : Pl} {a b p q : Nat} {xs ys : List MV} {us ws : List V} (hp : r0[a]? = some p) (hq : r0[b]? = some q) (vx : VRs r0 xs us) (vy : VRs r0 ys ws) : ItOk C r0 (.zipL a b xs ys) (Itz K p q) := by
  unfold ItOk
  have hl : (items (.zipL a b xs ys)).length = min us.length ws.length := by unfold items; rw [zip2_len, vx.len, vy.len]
  rw [hl]
  refine (walk_zip (K := K) (a := p) (b := q) (xs := us) (ys := ws) rfl).mono (fun H ⟨r', M', pre, rel, g⟩ => ?_) fun i H x H' _ _ y => y_two rfl vx vy y
  have g' := Bool.and_eq_true_iff.mp g
  exact ⟨gi_lst (s := .rng 0 0) hp vx pre rel (of_decide_eq_true g'.1), gi_lst (s := .rng 0 0) hq vy pre rel (of_decide_eq_true g'.2)⟩
theorem walk_zipT {a b : Addr} {xs ys : List V} {n : Nat} (hn : n = min xs.length ys.length) : Walk (ItzT K a b) n (fun H => SqT K H a xs ∧ SqT K H b ys) (YPair (fun i => xs[i]?) (fun i => ys[i]?)) := by
  subst hn
  refine ⟨fun i _ hi q => ?_, fun _ q => ⟨xs, ys, q.1, q.2, by omega⟩, fun i H v H' _ q y => ?_⟩
  · have h1 : i < xs.length := by omega
    have h2 : i < ys.length := by omega
    exact ⟨xs, ys, xs[i], ys[i], q.1, q.2, by simp [h1], by simp [h2]⟩
  · obtain ⟨T, x, z, h1, h2, h3, h4, h5⟩ := y
    exact ⟨T, x, z, h1, h2, h3, h4 xs q.1, h5 ys q.2⟩
theorem it_zipT {r0 : Pl} {a b p q : Nat} {xs ys : List MV} {us ws : List V} (hp : r0[a]? = some p) (hq : r0[b]? = some q) (vx : VRs r0 xs us) (vy : VRs r0 ys ws) : ItOk C r0 (.zipT a b xs ys) (ItzT K p q) := by
  unfold ItOk
  have hl : (items (.zipT a b xs ys)).length = min us.length ws.length := by unfold items; rw [zip2_len, vx.len, vy.len]
  rw [hl]
  refine (walk_zipT (K := K) (a := p) (b := q) (xs := us) (ys := ws) rfl).mono (fun H ⟨r', M', pre, rel, g⟩ => ?_) fun i H x H' _ _ y => y_two rfl vx vy y
  have g' := Bool.and_eq_true_iff.mp g
  exact ⟨gi_tup (s := .rng 0 0) hp vx pre rel (of_decide_eq_true g'.1), gi_tup (s := .rng 0 0) hq vy pre rel (of_decide_eq_true g'.2)⟩
/-! the iterables -/
abbrev IF := Env' → Store → Res Src
def tI (C : Nat → Addr) (W : WX) (f : IF) : TI := fun σ H R => ∃ r env M, ER r env σ ∧ Rel C r M H ∧ Out C r (wx W σ) (f env M) fun r' H' s => ∀ J, ItOk C r' s J → R J H'
theorem PI.imp {t t' : TI} (h : PI X tg iter t) (k : ∀ σ H R, t' σ H R → t σ H R) : PI X tg iter t' := ⟨fun pins s σ H R I q => h.run pins s σ H R I (k σ H R q)⟩
def seqS (v : MV) (M : Store) : Res Src := match v with
  | .ref a => (match M[a]? with
    | some (.lst xs) => .ok (.list a xs) M
    | some (.rl xs) => .ok (.rl a xs) M
    | _ => .no)
  | _ => .no
def iSeq (fa : EF) : IF := fun env M => (fa env M).bnd seqS
theorem si_list {fa : EF} (h : PE X iter (tE C W fa)) : PI X tg iter (tI C W (iSeq fa)) := PI.imp (pi_list h) fun σ H R ⟨r, env, M, er, rel, o⟩ => ⟨r, env, M, er, rel, o.bnd.imp fun r1 H1 v _ ⟨M1, p1, rel1, o1⟩ u vr1 => by
  unfold seqS at o1
  cases v with
  | ref a =>
    simp only at o1
    split at o1
    · rename_i xs ea
      obtain ⟨p, us, rfl, hp, vr, e⟩ := rel1.lst vr1 ea
      exact ⟨p, rfl, ⟨us, SqL.of e⟩, ok_same rel1 o1 _ (it_list hp vr)⟩
    · rename_i xs ea
      obtain ⟨p, us, rfl, hp, vr, e⟩ := rel1.rl vr1 ea
      exact ⟨p, rfl, ⟨us, SqL.frz e⟩, ok_same rel1 o1 _ (it_rl hp vr)⟩
    · exact o1.elim
  | _ => exact o1.elim⟩
def tupS (v : MV) (M : Store) : Res Src := match v with
  | .ref a => (match M[a]? with
    | some (.tup xs) => .ok (.tup a xs) M
    | _ => .no)
  | _ => .no
def iTupS (fa : EF) : IF := fun env M => (fa env M).bnd tupS
theorem si_tup {fa : EF} (h : PE X iter (tE C W fa)) : PI X tg iter (tI C W (iTupS fa)) := PI.imp (pi_tup h) fun σ H R ⟨r, env, M, er, rel, o⟩ => ⟨r, env, M, er, rel, o.bnd.imp fun r1 H1 v _ ⟨M1, p1, rel1, o1⟩ u vr1 => by
  unfold tupS at o1
  cases v with
  | ref a =>
    simp only at o1
    split at o1
    · rename_i xs ea
      obtain ⟨p, us, rfl, hp, vr, e⟩ := rel1.tup vr1 ea
      exact ⟨p, rfl, ⟨us, SqT.of e⟩, ok_same rel1 o1 _ (it_tup hp vr)⟩
    · exact o1.elim
  | _ => exact o1.elim⟩
def rngS (vs : List MV) (M : Store) : Res Src := match vs with
  | [.int j] => if -(2 ^ 62) ≤ j ∧ j < 2 ^ 62 then .ok (.rng 0 j.toNat) M else .no
  | _ => .no
def iRng (fa : AF) : IF := fun env M => (fa env M).bnd rngS
theorem si_range1 {fa : AF} (hg : Gl X "range") (hm : X.mg "range" = none) (ha : PA X [e] (tA C W fa)) (hs : starEach [e] X.env = [(false, eval e X.env)] := by rfl) : PI X tg (.Call (.Name "range" p) [e] [] pos) (tI C W (iRng fa)) :=
  PI.imp (pi_range1 hg hm ha hs) fun σ H R ⟨r, env, M, er, rel, o⟩ => ⟨r, env, M, er, rel, o.bnd.imp fun r1 H1 vs _ ⟨M1, p1, rel1, o1⟩ us vr1 => by
    unfold rngS at o1
    split at o1
    · rename_i j _
      split at o1
      · rename_i hz
        obtain ⟨x, rfl, hx⟩ := vr1.one
        cases hx
        exact ⟨j, rfl, hz.1, hz.2, ok_same rel1 o1 _ it_rng⟩
      · exact o1.elim
    · exact o1.elim⟩
def zipS (vs : List MV) (M : Store) : Res Src := match vs with
  | [.ref a, .ref b] => (match M[a]?, M[b]? with
    | some (.lst xs), some (.lst ys) => .ok (.zipL a b xs ys) M
    | some (.tup xs), some (.tup ys) => .ok (.zipT a b xs ys) M
    | _, _ => .no)
  | _ => .no
def iZip' (fa : AF) : IF := fun env M => (fa env M).bnd zipS
theorem si_zip {e2 : Expr} {fa : AF} {elts : List Expr} {kk : Nat} {tpos : Pos} (hg : Gl X "zip") (hm : X.mg "zip" = none) (ha : PA X [e, e2] (tA C W fa)) (he : starEach [e, e2] X.env = (false, eval e X.env) :: starEach [e2] X.env := by rfl) (hpl : (backTo pos (starEach [e2] X.env)).any (·.1) = false := by rfl) :
    PI X (.Tuple elts kk tpos) (.Call (.Name "zip" p) [e, e2] [] pos) (tI C W (iZip' fa)) :=
  PI.imp (pi_zipA hg hm ha he hpl) fun σ H R ⟨r, env, M, er, rel, o⟩ => ⟨r, env, M, er, rel, o.bnd.imp fun r1 H1 vs _ ⟨M1, p1, rel1, o1⟩ us vr1 => by
    unfold zipS at o1
    split at o1
    · rename_i a b
      obtain ⟨x, y, rfl, hx, hy⟩ := vr1.two
      split at o1
      · rename_i xs ys ea eb
        obtain ⟨p, us, rfl, hp, vr, e1⟩ := rel1.lst hx ea
        obtain ⟨q, ws, rfl, hq, vw, e2⟩ := rel1.lst hy eb
        exact ⟨p, q, us, ws, rfl, .inl ⟨SqL.of e1, SqL.of e2, ok_same rel1 o1 _ (it_zipL hp hq vr vw)⟩⟩
      · rename_i xs ys ea eb
        obtain ⟨p, us, rfl, hp, vr, e1⟩ := rel1.tup hx ea
        obtain ⟨q, ws, rfl, hq, vw, e2⟩ := rel1.tup hy eb
        exact ⟨p, q, us, ws, rfl, .inr ⟨SqT.of e1, SqT.of e2, ok_same rel1 o1 _ (it_zipT hp hq vr vw)⟩⟩
      · exact o1.elim
    · exact o1.elim⟩
/-! targets -/
inductive Tgt where
  | one (i : Nat) | two (i j : Nat)
def bindI : Tgt → Item → Env' → Option Env'
  | .one i, .one v, env => some (env.set i (some v))
  | .two i j, .two v w, env => some ((env.set i (some v)).set j (some w))
  | _, _, _ => none
def gT (K : PySem.W.Frag) : Tgt → TG
  | .one i => gName i
  | .two i j => gTup K 2 (gCons (gName i) (gCons (gName j) gNil))
def SetOf : Tgt → L2.St → L2.St → Prop
  | .one i, σ, σ2 => ∃ x, σ2 = σ.set i x
  | .two i j, σ, σ2 => ∃ x y, σ2 = (σ.set i x).set j y
theorem tgt_ok {r0 r : Pl} {s : Src} {i : Nat} {M : Store} {H H' : Hp} {x : V} {t : Tgt} {it : Item} {env env2 : Env'} {σ : L2.St} (pre : r0 <+: r) (er : ER r env σ) (rel : Rel C r M H) (hi : (items s)[i]? = some it) (y : YI r0 s i H x H') (hb : bindI t it env = some env2) :
    Rel C r M H' ∧ ∀ Q : L2.St → Hp → Prop, (∀ σ2, ER r env2 σ2 → SetOf t σ σ2 → Q σ2 H') → gT K t x σ H' Q := by
  unfold YI at y
  rw [hi] at y
  cases t with
  | one i =>
    cases it with
    | one v =>
      cases hb
      obtain ⟨rfl, vr⟩ := y
      exact ⟨rel, fun Q k => k _ (ER.set (show SR' r (some v) (some x) from vr.mono pre) i er) ⟨_, rfl⟩⟩
    | two v w => cases hb
  | two i j =>
    cases it with
    | one v => cases hb
    | two v w =>
      cases hb
      obtain ⟨T, a, b, rfl, hT, rfl, va, vb⟩ := y
      refine ⟨rel.same (upd_keep hT), fun Q k => ⟨T, [a, b], rfl, SqT.of upd_same, rfl, a, [b], rfl, b, [], rfl, rfl, ?_⟩⟩
      exact k _ (ER.set (show SR' r (some w) (some b) from vb.mono pre) j (ER.set (show SR' r (some v) (some a) from va.mono pre) i er)) ⟨_, _, rfl⟩
/-! the slots of a block's own names -/
theorem wipe_set {σ : L2.St} {i : Nat} {x : Option V} : ∀ vs : List Nat, L2.wipe (σ.set i x) vs = if i ∈ vs then L2.wipe σ vs else (L2.wipe σ vs).set i x
  | [] => by simp [L2.wipe]
  | v :: vs => by
    unfold L2.wipe
    rw [wipe_set vs]
    by_cases h : i ∈ vs
    · rw [if_pos h, if_pos (List.mem_cons_of_mem _ h)]
    · rw [if_neg h]
      by_cases e : i = v
      · subst e
        rw [List.set_set, if_pos List.mem_cons_self]
      · rw [if_neg (by simp [h, e]), List.set_comm _ _ e]
theorem wipe_wipe {σ : L2.St} {vs : List Nat} : ∀ ws : List Nat, (∀ w ∈ ws, w ∈ vs) → L2.wipe (L2.wipe σ ws) vs = L2.wipe σ vs
  | [], _ => rfl
  | w :: ws, h => by
    show L2.wipe ((L2.wipe σ ws).set w none) vs = _
    rw [wipe_set, if_pos (h w List.mem_cons_self), wipe_wipe ws fun z hz => h z (List.mem_cons_of_mem _ hz)]
def slots : Tgt → List Nat
  | .one i => [i]
  | .two i j => [i, j]
theorem setOf_wipe {t : Tgt} {σ σ2 : L2.St} {vs : List Nat} (h : SetOf t (L2.wipe σ vs) σ2) (k : ∀ i ∈ slots t, i ∈ vs) : L2.wipe σ2 vs = L2.wipe σ vs := by
  cases t with
  | one i =>
    obtain ⟨x, rfl⟩ := h
    rw [wipe_set, if_pos (k i (by simp [slots])), wipe_wipe vs fun _ z => z]
  | two i j =>
    obtain ⟨x, y, rfl⟩ := h
    rw [wipe_set, if_pos (k j (by simp [slots])), wipe_set, if_pos (k i (by simp [slots])), wipe_wipe vs fun _ z => z]
end
end Mini

set_option Elab.async false
set_option linter.all false
set_option maxRecDepth 100000
set_option maxHeartbeats 4000000
namespace Mini
open PySem PySem.Spec PyProof.Rows L2 RZ
section
variable {C : Nat → Addr} {W : WX} {X : Cx} {e a b c tg iter elt : Expr} {es : List Expr} {pos p : Pos} {K : PySem.W.Frag}
/-! ### comprehensions -/
/-- no exception is wished -/
abbrev W0 : WX := fun _ _ _ _ => False
theorem takes0 {X : Cx} : Takes X W0 := fun _ _ ⟨_, _, _, _, _, _, _, _, _, _, _, _, _, _, _, _, z⟩ => z.elim
def tYesF : EF := fun _ M => .ok (.bl true) M
theorem PTs.imp {t t' : TT} (h : PTs X es t) (k : ∀ σ H Q, t' σ H Q → t σ H Q) : PTs X es t' := ⟨fun pins s σ H Q I q => h.run pins s σ H Q I (k σ H Q q)⟩
theorem sts_nil : PTs X [] (tT C W tYesF) := PTs.imp pts_nil fun σ H Q ⟨r, env, M, er, rel, o⟩ => by
  obtain ⟨b, hb, q⟩ := ok_same rel o
  cases hb
  exact q
theorem sts_one {f : EF} (h : PT X c (tT C W f)) : PTs X [c] (tT C W f) := pts_one h
def compL (D : Nat) (t : Tgt) (s : Src) (cnd el : EF) (vs : List Nat) (env : Env') : List Item → Store → Option Store
  | [], M => if guard s M = true then some M else none
  | it :: r, M => if guard s M = true then (match bindI t it (wipe' env vs) with
    | some env2 => (match cnd env2 M with
      | .ok (.bl true) M1 => (match el env2 M1 with
        | .ok v M2 => (match M2[D]? with
          | some (.lst acc) => if acc.length < big then compL D t s cnd el vs env r (M2.set D (.lst (acc ++ [v]))) else none
          | _ => none)
        | _ => none)
      | .ok (.bl false) M1 => compL D t s cnd el vs env r M1
      | _ => none)
    | none => none) else none
def lcF (t : Tgt) (vs : List Nat) (cnd el : EF) (env : Env') (s : Src) (M1 : Store) : Res MV := if guard s M1 = true then (match compL M1.length t s cnd el vs env (items s) (M1 ++ [.lst []]) with
    | some Mz => .ok (.ref M1.length) Mz
    | none => .no) else .no
def fLc (fi : IF) (t : Tgt) (vs : List Nat) (cnd el : EF) : EF := fun env M => (fi env M).bnd (lcF t vs cnd el env)
theorem compL_guard {D : Nat} {t : Tgt} {s : Src} {cnd el : EF} {vs : List Nat} {env : Env'} {l : List Item} {M M' : Store} (h : compL D t s cnd el vs env l M = some M') : guard s M = true := by
  cases l with
  | nil => unfold compL at h; split at h; · assumption
           · cases h
  | cons it r => unfold compL at h; split at h; · assumption
                 · cases h
theorem lc_imp {fi : IF} {t : Tgt} {vs : List Nat} {cnd el : EF} (hv : ∀ i ∈ slots t, i ∈ vs) (σ : L2.St) (H : Hp) (Q : VK) (h : tE C W (fLc fi t vs cnd el) σ H Q) : tLc (tI C W fi) (gT K t) (tT C W0 cnd) (tE C W0 el) vs σ H Q := by
  obtain ⟨r, env, M, er, rel, o⟩ := h
  refine ⟨r, env, M, er, rel, o.bnd.imp fun r1 H1 s _ ⟨M1, p1, rel1, o1⟩ J it => ?_⟩
  unfold lcF at o1
  split at o1
  · rename_i gd1
    split at o1
    · rename_i Mz h2
      intro D hD
      have er1 := (er.mono p1).wipe vs
      have hlen : r1.length = M1.length := rel1.len
      refine lc_it it (fun i H => ∃ r' M, (r1 ++ [D]) <+: r' ∧ Rel C r' M H ∧ compL M1.length t s cnd el vs env ((items s).drop i) M = some Mz) ?_ ?_ ?_ ?_
      · exact ⟨r1 ++ [D], M1 ++ [.lst []], List.prefix_refl _, rel1.newLst hD .nil, by rw [List.drop_zero]; exact h2⟩
      · rintro i H _ ⟨r', M, pre, rl, hc⟩
        exact ⟨r', M, (List.prefix_append _ _).trans pre, rl, compL_guard hc⟩
      · rintro i x H H' hi ⟨r', M, pre, rl, hc⟩ y
        have pre1 : r1 <+: r' := (List.prefix_append _ _).trans pre
        have hit : (items s)[i]? = some (items s)[i] := List.getElem?_eq_getElem hi
        rw [List.drop_eq_getElem_cons hi] at hc
        unfold compL at hc
        split at hc
        · split at hc
          · rename_i env2 hb
            have ⟨rl', k⟩ := tgt_ok (K := K) pre1 ((er1.mono pre1)) rl hit y hb
            refine k _ fun σ2 er2 so => ⟨setOf_wipe so hv, r', env2, M, er2, rl', ?_⟩
            cases hcnd : cnd env2 M with
            | no => rw [hcnd] at hc; cases hc
            | ex c fs Ma => rw [hcnd] at hc; cases hc
            | ok bv Ma =>
              rw [hcnd] at hc
              cases bv with
              | bl bb =>
                refine fun ra Ha pa rela => ⟨bb, rfl, ?_⟩
                cases bb with
                | true =>
                  rw [if_pos rfl]
                  simp only at hc
                  refine ⟨ra, env2, Ma, er2.mono pa, rela, ?_⟩
                  cases hel : el env2 Ma with
                  | no => rw [hel] at hc; cases hc
                  | ex c fs Mb => rw [hel] at hc; cases hc
                  | ok ve Mb =>
                    rw [hel] at hc
                    simp only at hc
                    refine fun rb Hb pb relb u vrb => ?_
                    split at hc
                    · rename_i acc hacc
                      split at hc
                      · rename_i hsz
                        have prb : (r1 ++ [D]) <+: rb := pre.trans (pa.trans pb)
                        have hD' : rb[M1.length]? = some D := pre_get prb (by rw [← hlen]; simp)
                        obtain ⟨us, vru, hHb⟩ := relb.at_ _ _ _ hD' hacc
                        refine ⟨us, hHb, ?_, rb, _, prb, relb.setLst hD' hacc (vru.append (.cons vrb .nil)), hc⟩
                        rw [← vru.len]
                        exact Nat.lt_of_lt_of_le hsz (big_ok (Nat.le_refl _))
                      · cases hc
                    · cases hc
                | false =>
                  rw [if_neg (by decide)]
                  exact ⟨ra, Ma, pre.trans pa, rela, hc⟩
              | _ => cases hc
          · cases hc
        · cases hc
      · rintro H ⟨r', M, pre, rl, hc⟩
        rw [List.drop_length] at hc
        unfold compL at hc
        split at hc
        · cases hc
          refine o1 r' H ((List.prefix_append _ _).trans pre) rl _ ⟨D, ?_, rfl⟩
          exact pre_get pre (by rw [← hlen]; simp)
        · cases hc
    · exact o1.elim
  · exact o1.elim
theorem se_lc {ifs : List Expr} {scope : Scope} {own : List (Str × Nat)} {fi : IF} {t : Tgt} {cnd el : EF} (hc : X.calm = true) (hN : X.N.Nodup) (hi : PI X tg iter (tI C W fi)) (ok : BlkOk X.N X.env.scope scope own)
    (hg : ∀ (s : Shared) (H : Hp) (D : Addr) (cl : List (Str × Addr)) (fp : List Addr), PG (X.blk s H scope (compEnvC scope cl D X.env) fp) tg (gT X.K t))
    (ht : ∀ (s : Shared) (H : Hp) (D : Addr) (cl : List (Str × Addr)) (fp : List Addr), PTs (X.blk s H scope (compEnvC scope cl D X.env) fp) ifs (tT C W0 cnd))
    (he : ∀ (s : Shared) (H : Hp) (D : Addr) (cl : List (Str × Addr)) (fp : List Addr), PE (X.blk s H scope (compEnvC scope cl D X.env) fp) elt (tE C W0 el)) (hv : ∀ i ∈ slots t, i ∈ own.map (·.2)) (hs : ∀ x, foldedSetIterable iter X.env x = pure x := by intro _; rfl) :
    PE X (.ListComp elt [⟨tg, iter, ifs, 0⟩] scope pos) (tE C W (fLc fi t (own.map (·.2)) cnd el)) :=
  PE.imp (pe_lc hc hN hi ok hg ht he hs) fun σ H Q h => lc_imp hv σ H Q h
/-! ### statements -/
inductive SR where
  | no | nx (env : Env') (M : Store) | rt (v : MV) (M : Store) | bk (env : Env') (M : Store) | ct (env : Env') (M : Store) | ex (env : Env') (c : Nat) (fs : List (Str × MV)) (M : Store)
abbrev SF := Env' → Store → SR
/-- a value is had, then on; or the expression's exception -/
def Res.st {α : Type} (z : Res α) (env : Env') (k : α → Store → SR) : SR := match z with
  | .no => .no
  | .ok x M => k x M
  | .ex c fs M => .ex env c fs M
def PostS (C : Nat → Addr) (W : WX) (r : Pl) (z : SR) (D : Ends) : Prop := match z with
  | .no => False
  | .nx env M => ∀ r' σ H, r <+: r' → ER r' env σ → Rel C r' M H → D.nx σ H
  | .bk env M => ∀ r' σ H, r <+: r' → ER r' env σ → Rel C r' M H → D.bk σ H
  | .ct env M => ∀ r' σ H, r <+: r' → ER r' env σ → Rel C r' M H → D.ct σ H
  | .rt v M => ∀ r' H u, r <+: r' → Rel C r' M H → VR r' v u → D.rt u H
  | .ex env c fs M => ∀ r' σ H d us, r <+: r' → ER r' env σ → Rel C r' M H → H d = some (.xd us) → FR r' fs us → d ∉ r' → W (.ref (C c)) (some d) σ H
theorem PostS.mono {r r' : Pl} {z : SR} {D : Ends} (h : r <+: r') (p : PostS C W r z D) : PostS C W r' z D := by
  cases z with
  | no => exact p
  | rt v M => exact fun r2 H u h2 => p r2 H u (h.trans h2)
  | ex env c fs M => exact fun r2 σ H d us h2 => p r2 σ H d us (h.trans h2)
  | _ => exact fun r2 σ H h2 => p r2 σ H (h.trans h2)
theorem PostS.st {α : Type} {r : Pl} {z : Res α} {env : Env'} {k : α → Store → SR} {D : Ends} {σ : L2.St} (er : ER r env σ) (p : PostS C W r (z.st env k) D) : Out C r (wx W σ) z fun r1 H1 x => ∃ M1, r <+: r1 ∧ Rel C r1 M1 H1 ∧ PostS C W r1 (k x M1) D := by
  cases z with
  | no => exact p
  | ok x M => exact fun r1 H1 p1 rel1 => ⟨M, p1, rel1, PostS.mono p1 p⟩
  | ex c fs M => exact fun r1 H1 d us p1 rel1 e f n => p r1 σ H1 d us p1 (er.mono p1) rel1 e f n
def tS (C : Nat → Addr) (W : WX) (f : SF) : TS := fun D σ H => ∃ r env M, ER r env σ ∧ Rel C r M H ∧ PostS C W r (f env M) D
section
variable {st : Stmt} {sts rest body orelse : List Stmt} {t u : TS}
theorem PS.imp {t t' : TS} (h : PS X st t) (k : ∀ D σ H, t' D σ H → t D σ H) : PS X st t' := ⟨fun pins s σ H D I q => h.run pins s σ H D I (k D σ H q)⟩
theorem PSs.imp {t t' : TS} (h : PSs X sts t) (k : ∀ D σ H, t' D σ H → t D σ H) : PSs X sts t' := ⟨fun pins s σ H D I q => h.run pins s σ H D I (k D σ H q)⟩
def fSkip : SF := fun env M => .nx env M
def fSeq (f g : SF) : SF := fun env M => match f env M with
  | .nx e1 M1 => g e1 M1
  | z => z
theorem ss_nil : PSs X [] (tS C W fSkip) := PSs.imp pss_nil fun D σ H ⟨r, env, M, er, rel, post⟩ => post r σ H (List.prefix_refl _) er rel
theorem ss_pass : PS X (.Pass pos) (tS C W fSkip) := PS.imp ps_pass fun D σ H ⟨r, env, M, er, rel, post⟩ => post r σ H (List.prefix_refl _) er rel
theorem ss_doc {x j pos'} : PS X (.Expr (.Constant (.str x) j pos) pos') (tS C W fSkip) := PS.imp ps_doc fun D σ H ⟨r, env, M, er, rel, post⟩ => post r σ H (List.prefix_refl _) er rel
theorem ss_cons {f g : SF} (h1 : PS X st (tS C W f)) (h2 : PSs X rest (tS C W g)) : PSs X (st :: rest) (tS C W (fSeq f g)) :=
  PSs.imp (pss_cons h1 h2) fun D σ H ⟨r, env, M, er, rel, post⟩ => by
    refine ⟨r, env, M, er, rel, ?_⟩
    unfold fSeq at post
    cases hf : f env M with
    | nx e1 Ma =>
      rw [hf] at post
      exact fun r1 σ1 H1 p1 er1 rel1 => ⟨r1, e1, Ma, er1, rel1, PostS.mono (z := g e1 Ma) p1 post⟩
    | _ => rw [hf] at post; exact post
def fBreak : SF := fun env M => .bk env M
def fCont : SF := fun env M => .ct env M
theorem ss_break : PS X (.Break pos) (tS C W fBreak) := PS.imp ps_break fun D σ H ⟨r, env, M, er, rel, post⟩ => post r σ H (List.prefix_refl _) er rel
theorem ss_cont : PS X (.Continue pos) (tS C W fCont) := PS.imp ps_continue fun D σ H ⟨r, env, M, er, rel, post⟩ => post r σ H (List.prefix_refl _) er rel
def fRet (fa : EF) : SF := fun env M => (fa env M).st env .rt
theorem ss_ret {fa : EF} (ha : PE X e (tE C W fa)) : PS X (.Return (some e) pos) (tS C W (fRet fa)) := PS.imp (ps_ret ha) fun D σ H ⟨r, env, M, er, rel, post⟩ =>
  ⟨r, env, M, er, rel, (PostS.st er post).imp fun r1 H1 v _ ⟨M1, p1, rel1, o1⟩ u vr => o1 r1 H1 u (List.prefix_refl _) rel1 vr⟩
def fRetN : SF := fun env M => .rt .non M
theorem ss_retN : PS X (.Return none pos) (tS C W fRetN) := PS.imp ps_retN fun D σ H ⟨r, env, M, er, rel, post⟩ => post r H .non (List.prefix_refl _) rel rfl
def fEx (fa : EF) : SF := fun env M => (fa env M).st env fun _ M1 => .nx env M1
theorem ss_ex {fa : EF} (ha : PE X e (tE C W fa)) (hs : swapsWith e none pos.line X.env = pure false := by rfl) : PS X (.Expr e pos) (tS C W (fEx fa)) := PS.imp (ps_expr ha hs) fun D σ H ⟨r, env, M, er, rel, post⟩ =>
  ⟨r, env, M, er, rel, (PostS.st er post).imp fun r1 H1 v _ ⟨M1, p1, rel1, o1⟩ u vr => o1 r1 σ H1 (List.prefix_refl _) (er.mono p1) rel1⟩
def onBS (v : MV) (f : Bool → SR) : SR := match v with | .bl b => f b | _ => .no
theorem onBS_out {r : Pl} {v : MV} {f : Bool → SR} {D : Ends} (o : PostS C W r (onBS v f) D) : ∃ b, v = .bl b ∧ PostS C W r (f b) D := by
  cases v with
  | bl b => exact ⟨b, rfl, o⟩
  | _ => exact o.elim
def fIfS (ft : EF) (f g : SF) : SF := fun env M => (ft env M).st env fun v M1 => onBS v fun k => bif k then f env M1 else g env M1
theorem ss_if {ft : EF} {f g : SF} (ht : PT X c (tT C W ft)) (h1 : PSs X body (tS C W f)) (h2 : PSs X orelse (tS C W g)) : PS X (.If c body orelse pos) (tS C W (fIfS ft f g)) :=
  PS.imp (ps_if ht h1 h2) fun D σ H ⟨r, env, M, er, rel, post⟩ => ⟨r, env, M, er, rel, (PostS.st er post).imp fun r1 H1 v _ ⟨M1, p1, rel1, o1⟩ => by
    obtain ⟨k, rfl, o2⟩ := onBS_out o1
    refine ⟨k, rfl, ?_⟩
    show ite _ _ _
    cases k with
    | true => rw [if_pos rfl]; exact ⟨r1, env, M1, er.mono p1, rel1, o2⟩
    | false => rw [if_neg (by decide)]; exact ⟨r1, env, M1, er.mono p1, rel1, o2⟩⟩
def fSet (i : Nat) (fa : EF) : SF := fun env M => (fa env M).st env fun v M1 => .nx (env.set i (some v)) M1
theorem set_imp {i : Nat} {fa : EF} (D : Ends) (σ : L2.St) (H : Hp) (h : tS C W (fSet i fa) D σ H) : tAsg (tE C W fa) (gName i) D σ H := by
  obtain ⟨r, env, M, er, rel, post⟩ := h
  exact ⟨r, env, M, er, rel, (PostS.st er post).imp fun r1 H1 v _ ⟨M1, p1, rel1, o1⟩ u vr1 => o1 r1 _ H1 (List.prefix_refl _) (ER.set (show SR' r1 (some v) (some u) from vr1) i (er.mono p1)) rel1⟩
theorem ss_set {i : Nat} {x : Str} {fa : EF} {pos' : Pos} (hN : X.N.Nodup) (hi : X.N[i]? = some x) (hx : Loc X.env.scope x) (he : PE X e (tE C W fa)) (hs : swapsWith e (some (.Name x pos')) pos.line X.env = pure false := by rfl) (hf : X.fn x = true ∨ X.env.scope.names.lookup x = some .local := by first | exact .inl rfl | exact .inr rfl | assumption) :
    PS X (.Assign [.Name x pos'] e pos) (tS C W (fSet i fa)) := PS.imp (ps_set hN hi hx he hs hf) set_imp
theorem ss_setLc {i : Nat} {y : Str} {py spos : Pos} {scope : Scope} {own : List (Str × Nat)} {fi : IF} {t : Tgt} {cnd el : EF} (hc : X.calm = true) (hN : X.N.Nodup) (hy : X.N[i]? = some y) (hyl : X.env.scope.names.lookup y = some .local)
    (hsw : swapsWith (.ListComp elt [⟨tg, iter, es, 0⟩] scope pos) (some (.Name y py)) spos.line X.env = pure true) (hi : PI X tg iter (tI C W fi)) (ok : BlkOk X.N X.env.scope scope own)
    (hg : ∀ (s : Shared) (H : Hp) (D : Addr) (cl : List (Str × Addr)) (fp : List Addr), PG (X.blk s H scope (compEnvC scope cl D X.env) fp) tg (gT X.K t))
    (ht : ∀ (s : Shared) (H : Hp) (D : Addr) (cl : List (Str × Addr)) (fp : List Addr), PTs (X.blk s H scope (compEnvC scope cl D X.env) fp) es (tT C W0 cnd))
    (he : ∀ (s : Shared) (H : Hp) (D : Addr) (cl : List (Str × Addr)) (fp : List Addr), PE (X.blk s H scope (compEnvC scope cl D X.env) fp) elt (tE C W0 el)) (hv : ∀ i ∈ slots t, i ∈ own.map (·.2)) (hs : ∀ x, foldedSetIterable iter X.env x = pure x := by intro _; rfl) :
    PS X (.Assign [.Name y py] (.ListComp elt [⟨tg, iter, es, 0⟩] scope pos) spos) (tS C W (fSet i (fLc fi t (own.map (·.2)) cnd el))) :=
  PS.imp (ps_setLc hc hN hy hyl hsw hi ok hg ht he hs) fun D σ H ⟨r, env, M, er, rel, post⟩ =>
    lc_imp hv σ H _ ⟨r, env, M, er, rel, (PostS.st er post).imp fun r1 H1 v _ ⟨M1, p1, rel1, o1⟩ u vr1 => o1 r1 _ H1 (List.prefix_refl _) (ER.set (show SR' r1 (some v) (some u) from vr1) i (er.mono p1)) rel1⟩
/-! a[i] = e, a a list -/
def setI (o i v : MV) (env : Env') (M : Store) : SR := match o, i with
  | .ref a, .int k => (match M[a]? with
    | some (.lst xs) => (match ixN xs.length k with
      | some j => .nx env (M.set a (.lst (xs.set j v)))
      | none => .no)
    | _ => .no)
  | _, _ => .no
def fSetI (fo fi fa : EF) : SF := fun env M => (fa env M).st env fun v M1 => (fo env M1).st env fun o M2 => (fi env M2).st env fun i M3 => setI o i v env M3
theorem ss_setI {o i : Expr} {fo fi fa : EF} {tpos : Pos} (ho : PE X o (tE C W fo)) (hi : PE X i (tE C W fi)) (he : PE X e (tE C W fa))
    (ha : ∀ v, assign (.Subscript o i tpos) X.env v = (do
      let ov ← holding [v] (eval o X.env)
      let iv ← holding [v, ov] (eval i X.env)
      standAt tpos
      holding [v, ov, iv] (setItem ov iv v)
      release [v, ov, iv] []) := by intro _; rfl) (hs : swapsWithSole [.Subscript o i tpos] e pos.line X.env = pure false := by rfl) (hw : swappedStores [.Subscript o i tpos] e X.env = pure none := by rfl)
    (h1 : (assignEach [.Subscript o i tpos] X.env).map (·.2) = [assign (.Subscript o i tpos) X.env] := by rfl) : PS X (.Assign [.Subscript o i tpos] e pos) (tS C W (fSetI fo fi fa)) :=
  PS.imp (ps_asg he (pg_sub ho hi set_list ha) hs hw h1) fun D σ H ⟨r, env, M, er, rel, post⟩ => ⟨r, env, M, er, rel, (PostS.st er post).imp fun r1 H1 v _ ⟨M1, p1, rel1, o1⟩ u vr1 =>
    ⟨r1, env, M1, er.mono p1, rel1, (PostS.st (er.mono p1) o1).imp fun r2 H2 ov _ ⟨M2, p2, rel2, o2⟩ uo vr2 => ⟨r2, env, M2, (er.mono p1).mono p2, rel2, (PostS.st ((er.mono p1).mono p2) o2).imp fun r3 H3 iv _ ⟨M3, p3, rel3, o3⟩ ui vr3 => by
      unfold setI at o3
      cases ov with
      | ref a => cases iv with
        | int k =>
          simp only at o3
          split at o3
          · rename_i xs ea
            split at o3
            · rename_i j hj
              obtain ⟨q, us, rfl, hq, vr, hp⟩ := rel3.lst (vr2.mono p3) ea
              exact ⟨q, us, k, j, rfl, vr3, hp, by rw [← vr.len]; exact hj, o3 r3 σ _ (List.prefix_refl _) (((er.mono p1).mono p2).mono p3) (rel3.setLst hq ea (VRs.set ((vr1.mono p2).mono p3) j vr))⟩
            · exact o3.elim
          · exact o3.elim
        | _ => exact o3.elim
      | _ => exact o3.elim⟩⟩⟩
/-! for -/
def forL (t : Tgt) (s : Src) (f : SF) : List Item → Env' → Store → SR
  | [], env, M => if guard s M = true then .nx env M else .no
  | it :: r, env, M => if guard s M = true then (match bindI t it env with
    | some env2 => (match f env2 M with
      | .nx e1 M1 => forL t s f r e1 M1
      | .ct e1 M1 => forL t s f r e1 M1
      | .bk e1 M1 => .nx e1 M1
      | z => z)
    | none => .no) else .no
def fFor (fi : IF) (t : Tgt) (f : SF) : SF := fun env M => (fi env M).st env fun s M1 => if guard s M1 = true then forL t s f (items s) env M1 else .no
theorem forL_guard {t : Tgt} {s : Src} {f : SF} {l : List Item} {env : Env'} {M : Store} {r : Pl} {D : Ends} (h : PostS C W r (forL t s f l env M) D) : guard s M = true := by
  cases l with
  | nil => unfold forL at h; split at h; · assumption
           · exact h.elim
  | cons it r => unfold forL at h; split at h; · assumption
                 · exact h.elim
theorem ss_for {fi : IF} {t : Tgt} {f : SF} (hp : PassesOwn (model X.prog X.w) X.A X.env X.xe) (hc : X.calm = true) (hi : PI X tg iter (tI C W fi)) (hg : PG X tg (gT X.K t)) (hb : PSs X body (tS C W f)) (hs : ∀ x, foldedSetIterable iter X.env x = pure x := by intro _; rfl) :
    PS X (.For tg iter body [] pos) (tS C W (fFor fi t f)) :=
  PS.imp (ps_for hp hc hi hg hb hs) fun D σ H ⟨r, env, M, er, rel, post⟩ => ⟨r, env, M, er, rel, (PostS.st er post).imp fun r1 H1 s _ ⟨Ma, p1, rel1, o1⟩ J it => by
    split at o1
    · refine for_it it (fun i σ H => ∃ r' env M, r1 <+: r' ∧ ER r' env σ ∧ Rel C r' M H ∧ PostS C W r' (forL t s f ((items s).drop i) env M) D) ?_ ?_ ?_ ?_
      · exact ⟨r1, env, Ma, List.prefix_refl _, er.mono p1, rel1, by rw [List.drop_zero]; exact o1⟩
      · rintro i σ H _ ⟨r', env, M, pre, _, rl, hc⟩
        exact ⟨r', M, pre, rl, forL_guard hc⟩
      · rintro i x σ H H' hi ⟨r', env, M, pre, er', rl, hc⟩ y
        have hit : (items s)[i]? = some (items s)[i] := List.getElem?_eq_getElem hi
        rw [List.drop_eq_getElem_cons hi] at hc
        unfold forL at hc
        split at hc
        · split at hc
          · rename_i env2 hb2
            have ⟨rl', k⟩ := tgt_ok (K := X.K) pre er' rl hit y hb2
            refine k _ fun σ2 er2 so => ⟨r', env2, M, er2, rl', ?_⟩
            cases hbd : f env2 M with
            | no => rw [hbd] at hc; exact hc.elim
            | nx e1 Mb => rw [hbd] at hc; exact fun r2 σ2 H2 p2 er2 rel2 => ⟨r2, e1, Mb, pre.trans p2, er2, rel2, PostS.mono p2 (z := forL t s f _ e1 Mb) hc⟩
            | ct e1 Mb => rw [hbd] at hc; exact fun r2 σ2 H2 p2 er2 rel2 => ⟨r2, e1, Mb, pre.trans p2, er2, rel2, PostS.mono p2 (z := forL t s f _ e1 Mb) hc⟩
            | bk e1 Mb => rw [hbd] at hc; exact hc
            | rt v Mb => rw [hbd] at hc; exact hc
            | ex e1 c fs Mb => rw [hbd] at hc; exact hc
          · exact hc.elim
        · exact hc.elim
      · rintro σ H ⟨r', env, M, pre, er', rl, hc⟩
        rw [List.drop_length] at hc
        unfold forL at hc
        split at hc
        · exact hc r' σ H (List.prefix_refl _) er' rl
        · exact hc.elim
    · exact o1.elim⟩
end
end
end Mini

set_option Elab.async false
set_option linter.all false
set_option maxRecDepth 100000
set_option maxHeartbeats 4000000
namespace Mini
open PySem PySem.Spec PyProof.Rows L2 RZ
/-! ### a def by its body -/
def gFn (n : Nat) (fb : SF) : GA := fun vs M => match fb (start' n vs) M with
  | .rt v M1 => .ok v M1
  | .nx _ M1 => .ok .non M1
  | .ex _ c fs M1 => .ex c fs M1
  | _ => .no
section
variable {P : Program} {w : World} {K : PySem.W.Frag} {mg : Str → Option Value} {base : Heap} {C : Nat → Addr} {x : Str} {params : Arguments} {body : List Stmt} {scope : Scope} {f : Addr} {fd : FuncData} {N ps : List Str} {k : Nat} {fb : SF}
/-- the wish of a def's own context -/
abbrev wE (E : XK) : WX := fun c d _ H => E c d H
theorem fn_def (F : FunD K x x params body scope [] [] f fd) (hm : mg x = some (.ref f)) (S : FnScope N ps scope) (hb : Binds K fd ps [])
    (hbody : ∀ (cdv : Value) (A : Around) (outer : List Env) (s : Shared) (H : Hp) (E : XK), Room k (A.deeper (envOfC x scope s.heap.objs.size f cdv)) → PSs (cxOf (L2.CX P w) P w K mg base N x scope f cdv A outer s H E) body (tS C (wE E) fb)) :
    Fn P w K mg base C (k + 1) x (gFn N.length fb) ps.length := by
  refine ⟨f, fd, ps, F.ok S (fun vs H Q E h => h.1) (fun cdv A outer s H vs Q E hr h => ⟨_, hbody cdv A outer s H E hr, ?_⟩), hm, F.kp, hb⟩
  obtain ⟨_, r, ws, M, vr, rel, o⟩ := h
  refine ⟨r, start' N.length ws, M, ER.start vr, rel, ?_⟩
  unfold gFn at o
  cases hz : fb (start' N.length ws) M with
  | no => rw [hz] at o; exact o.elim
  | bk e M1 => rw [hz] at o; exact o.elim
  | ct e M1 => rw [hz] at o; exact o.elim
  | rt v M1 => rw [hz] at o; exact fun r1 H1 u p1 rel1 vr1 => o r1 H1 p1 rel1 u vr1
  | nx e M1 => rw [hz] at o; exact fun r1 σ H1 p1 _ rel1 => o r1 H1 p1 rel1 .non rfl
  | ex e c fs M1 => rw [hz] at o; exact fun r1 σ H1 d us p1 _ rel1 e1 f1 n1 => o r1 H1 d us p1 rel1 e1 f1 n1
/-- what its context takes, what it passes -/
theorem tk_fn {cdv : Value} {A : Around} {outer : List Env} {s : Shared} {H : Hp} {E : XK} {qual : Str} : Takes (cxOf (L2.CX P w) P w K mg base N qual scope f cdv A outer s H E) (wE E) := takes_of rfl rfl rfl rfl
theorem ps_fn {cdv : Value} {A : Around} {outer : List Env} {s : Shared} {H : Hp} {E : XK} {qual : Str} : PassesOwn (model P w) (cxOf (L2.CX P w) P w K mg base N qual scope f cdv A outer s H E).A (cxOf (L2.CX P w) P w K mg base N qual scope f cdv A outer s H E).env (cxOf (L2.CX P w) P w K mg base N qual scope f cdv A outer s H E).xe := passes_of (K := fun e s'' => L2.CX P w outer H s E e s'') rfl
end
section
variable {C : Nat → Addr} {W : WX} {X : Cx} {e a b c o : Expr} {es : List Expr} {pos p px pa : Pos} {K : PySem.W.Frag}
theorem CallR.or {f : Value} {r r' : List V → Hp → VK → Prop} (h : CallR X f r) (h' : CallR X f r') : CallR X f (fun xs H Q => r xs H Q ∨ r' xs H Q) := fun pins s σ H xs us Q I rv q => q.elim (h pins s σ H xs us Q I rv) (h' pins s σ H xs us Q I rv)
/-! ### isinstance -/
def tyN (M : Store) : MV → Option String
  | .non => some "NoneType"
  | .bl _ => some "bool"
  | .int _ => some "int"
  | .str _ => some "str"
  | .ty _ => none
  | .ref a => match M[a]? with
    | some (.lst _) => some "list"
    | some (.rl _) => some "list"
    | some (.tup _) => some "tuple"
    | some (.dic _) => some "dict"
    | _ => none
def tyAs : List String := ["NoneType", "bool", "int", "str", "list", "tuple", "dict"]
def tyBs : List String := ["int", "str", "bool", "list", "tuple", "dict", "float", "set"]
def isT (a b : String) : Option Bool := if tyAs.contains a && tyBs.contains b then some (a == b || (a == "bool" && b == "int")) else none
theorem isT_all : (tyAs.all fun a => tyBs.all fun b => decide (kitB a b = isT a b)) = true := by decide +kernel
theorem isT_ok {a b : String} {r : Bool} (h : isT a b = some r) : PySem.W.kitOne K (.type a) (.type b) = some r := by
  unfold isT at h
  split at h
  · rename_i hc
    obtain ⟨h1, h2⟩ := Bool.and_eq_true_iff.mp hc
    have q := of_decide_eq_true (List.all_eq_true.mp (List.all_eq_true.mp isT_all a (List.contains_iff_mem.mp h1)) b (List.contains_iff_mem.mp h2))
    refine kit_ty (q.trans ?_)
    unfold isT
    rw [if_pos hc]
    exact h
  · cases h
theorem ty_ok {q : Pl} {M : Store} {H : Hp} {v : MV} {x : V} {t : String} (rel : Rel C q M H) (h : VR q v x) (ht : tyN M v = some t) : TyX K H x (.type t) := by
  cases v with
  | non => cases ht; cases h; exact .base .non
  | bl b => cases ht; cases h; exact .base (.bl b)
  | int b => cases ht; cases h; exact .base (.int b)
  | str b => cases ht; cases h; exact .base (.str b)
  | ty n => cases ht
  | ref a =>
    unfold tyN at ht
    simp only at ht
    split at ht
    · rename_i xs ea
      cases ht
      obtain ⟨p, us, rfl, _, _, hp⟩ := rel.lst h ea
      exact .base (.lst hp)
    · rename_i xs ea
      cases ht
      obtain ⟨p, us, rfl, _, _, hp | ⟨o, hp⟩⟩ := rel.rl h ea
      · exact .base (.lst hp)
      · exact .base (.frz hp)
    · rename_i xs ea
      cases ht
      obtain ⟨p, us, rfl, _, _, hp⟩ := rel.tup h ea
      exact .base (.tup hp)
    · rename_i xs ea
      cases ht
      obtain ⟨p, e1, rfl⟩ := h
      obtain ⟨us, _, hp⟩ := rel.at_ a p _ e1 ea
      exact .base (.dK hp)
    · cases ht
def anyT (t : String) : List MV → Option Bool
  | [] => some false
  | .ty b :: r => match isT t b with
    | some true => (anyT t r).map fun _ => true
    | some false => anyT t r
    | none => none
  | _ => none
theorem anyT_ok {q : Pl} {t : String} : ∀ {cs : List MV} {us : List V} {r : Bool}, anyT t cs = some r → VRs q cs us → ∃ ws, Paired ClsV us ws ∧ PySem.W.kitAny K (.type t) ws = some r
  | [], _, _, h, .nil => by cases h; exact ⟨[], .nil, rfl⟩
  | v :: cs, u :: us, r, h, .cons x xs => by
    cases v with
    | ty b =>
      cases x
      unfold anyT at h
      cases k : isT t b with
      | none => rw [k] at h; cases h
      | some z =>
        rw [k] at h
        have k1 := isT_ok (K := K) k
        cases z with
        | true =>
          obtain ⟨r2, h2, rfl⟩ := Option.map_eq_some_iff.mp h
          obtain ⟨ws, h1, _⟩ := anyT_ok h2 xs
          exact ⟨.type b :: ws, .cons (.ty b) h1, kitAny_cons k1 (fun z => by cases z) (fun _ => rfl)⟩
        | false =>
          obtain ⟨ws, h1, h2⟩ := anyT_ok h xs
          exact ⟨.type b :: ws, .cons (.ty b) h1, kitAny_cons k1 (fun _ => h2) (fun z => by cases z)⟩
    | _ => cases h
/-- the own classes, by number: what isinstance says of an exception of one -/
structure ClsT where
  /-- class by own class -/
  cc : Nat → Nat → Option Bool
  /-- class by built-in type -/
  ct : Nat → String → Option Bool
  /-- the exception classes; their fields that no class knows -/
  nf : Nat → Str → Bool
structure ClsOk (K : PySem.W.Frag) (C : Nat → Addr) (T : ClsT) : Prop where
  cc : ∀ c d b, T.cc c d = some b → PySem.W.kitOne K (.ref (C c)) (.ref (C d)) = some b ∧ XisC K (C c)
  ct : ∀ c t b, T.ct c t = some b → PySem.W.kitOne K (.ref (C c)) (.type t) = some b ∧ XisC K (C c)
  nf : ∀ c f, T.nf c f = true → XfC K (C c) ∧ PySem.W.findIn K (.ref (C c)) f = some none
def clsOf (M : Store) : MV → Option Nat
  | .ref a => match M[a]? with
    | some (.exc c _) => some c
    | _ => none
  | _ => none
theorem cls_at {q : Pl} {M : Store} {H : Hp} {v : MV} {x : V} {c : Nat} (rel : Rel C q M H) (h : VR q v x) (hc : clsOf M v = some c) : ∃ (a d : Addr) (fs : List (Str × MV)) (us : List (Str × V)), x = .ref a ∧ H a = some (exq a (C c) d) ∧ H d = some (.xd us) ∧ FR q fs us ∧ ∃ i, v = .ref i ∧ M[i]? = some (.exc c fs) := by
  cases v with
  | ref i =>
    unfold clsOf at hc
    simp only at hc
    split at hc
    · rename_i c' fs ea
      cases hc
      obtain ⟨p, e1, rfl⟩ := h
      obtain ⟨d, us, f1, h1, h2, _⟩ := rel.at_ i p _ e1 ea
      exact ⟨p, d, fs, us, rfl, h1, h2, f1, i, rfl, ea⟩
    · cases hc
  | _ => cases hc
/-- isinstance on values: types, tuples of types -/
def gIsi (T : ClsT) : GA := fun vs M => match vs with
  | [v, .ty b] => (match tyN M v with
    | some t => (match isT t b with | some r => .ok (.bl r) M | none => .no)
    | none => (match clsOf M v with
      | some c => (match T.ct c b with | some r => .ok (.bl r) M | none => .no)
      | none => .no))
  | [v, .ref tp] => (match M[tp]? with
    | some (.tup cs) => (match tyN M v with
      | some t => (match anyT t cs with | some r => .ok (.bl r) M | none => .no)
      | none => .no)
    | _ => .no)
  | _ => .no
abbrev rIsA (K : PySem.W.Frag) : List V → Hp → VK → Prop := fun xs H Q => rIsi K xs H Q ∨ (rIsiT K xs H Q ∨ rIsX K xs H Q)
theorem call_isA : CallR X (.builtin "isinstance") (rIsA X.K) := CallR.or call_isi (CallR.or call_isiT call_isX)
theorem k_isi {T : ClsT} (hT : ClsOk K C T) : RCOk C (rIsA K) (gIsi T) := by
  intro q M H xs vs E Q rel hv hg
  unfold gIsi at hg
  split at hg
  · obtain ⟨x, y, rfl, hx, hy⟩ := hv.two
    cases hy
    split at hg
    · rename_i t ht
      split at hg
      · rename_i r hr
        exact .inl ⟨x, _, _, _, r, rfl, .ty _, ty_ok rel hx ht, isT_ok hr, ok_same rel hg _ rfl⟩
      · exact hg.elim
    · split at hg
      · rename_i c hc
        split at hg
        · rename_i r hr
          obtain ⟨a, d, fs, us, rfl, h1, h2, _, _⟩ := cls_at rel hx hc
          obtain ⟨k1, k2⟩ := hT.ct _ _ _ hr
          exact .inr (.inr ⟨a, C c, d, _, _, us, r, rfl, .ty _, k2, h1, h2, k1, ok_same rel hg _ rfl⟩)
        · exact hg.elim
      · exact hg.elim
  · obtain ⟨x, y, rfl, hx, hy⟩ := hv.two
    split at hg
    · rename_i cs ea
      obtain ⟨p, us, rfl, _, vr, hp⟩ := rel.tup hy ea
      split at hg
      · rename_i t ht
        split at hg
        · rename_i r hr
          obtain ⟨ws, h1, h2⟩ := anyT_ok (K := K) hr vr
          exact .inr (.inl ⟨x, p, us, _, ws, r, rfl, hp, h1, ty_ok rel hx ht, h2, ok_same rel hg _ rfl⟩)
        · exact hg.elim
      · exact hg.elim
    · exact hg.elim
  · exact hg.elim
/-- isinstance(e, D), D an own class -/
def isC (T : ClsT) (d : Nat) (v : MV) (M : Store) : Res MV := match clsOf M v with
  | some c => (match T.cc c d with | some r => .ok (.bl r) M | none => .no)
  | none => .no
def fIsC (T : ClsT) (d : Nat) (fa : EF) : EF := fun env M => (fa env M).bnd (isC T d)
theorem se_isC {T : ClsT} {d : Nat} {x : Str} {fa : EF} (hT : ClsOk X.K C T) (hg : Gl X "isinstance") (hm : X.mg "isinstance" = none) (hgx : Gl X x) (hmx : X.mg x = some (.ref (C d))) (ha : PE X a (tE C W fa)) (hdx : (x == ("__debug__" : Str)) = false := by decide)
    (he : starEach [a, .Name x px] X.env = (false, eval a X.env) :: starEach [.Name x px] X.env := by rfl) (hpl : (backTo pos (starEach [.Name x px] X.env)).any (·.1) = false := by rfl) :
    PE X (.Call (.Name "isinstance" p) [a, .Name x px] [] pos) (tE C W (fIsC T d fa)) :=
  PE.imp (pe_callB call_isX hg hm (by decide +kernel) (pa_cons ha (pa_cons (pe_glob (v := .ref (C d)) hgx hmx rfl hdx) pa_nil) he) (by decide) (by decide) he hpl) fun σ H Q ⟨r, env, M, er, rel, o⟩ =>
    ⟨r, env, M, er, rel, o.bnd.imp fun r1 H1 v _ ⟨M1, p1, rel1, o1⟩ u vr => by
      unfold isC at o1
      split at o1
      · rename_i c hc
        split at o1
        · rename_i b hb
          obtain ⟨a, d', fs, us, rfl, h1, h2, _, _⟩ := cls_at rel1 vr hc
          obtain ⟨k1, k2⟩ := hT.cc _ _ _ hb
          exact ⟨a, C c, d', _, _, us, b, rfl, .own _, k2, h1, h2, k1, ok_same rel1 o1 _ rfl⟩
        · exact o1.elim
      · exact o1.elim⟩
/-! ### fields of an exception -/
def atX (T : ClsT) (f : Str) (v : MV) (M : Store) : Res MV := match v with
  | .ref i => (match M[i]? with
    | some (.exc c fs) => (match fs.lookup f with
      | some w => if T.nf c f = true then .ok w M else .no
      | none => .no)
    | _ => .no)
  | _ => .no
def fAt (T : ClsT) (f : Str) (fa : EF) : EF := fun env M => (fa env M).bnd (atX T f)
theorem se_at {T : ClsT} {f : Str} {fa : EF} (hT : ClsOk X.K C T) (ha : PE X a (tE C W fa)) (hb : attributeBase a f X.env (eval a X.env) = eval a X.env := by rfl) : PE X (.Attribute a f pos) (tE C W (fAt T f fa)) :=
  PE.imp (pe_xq ha hb) fun σ H Q ⟨r, env, M, er, rel, o⟩ => ⟨r, env, M, er, rel, o.bnd.imp fun r1 H1 v _ ⟨M1, p1, rel1, o1⟩ u vr => by
    unfold atX at o1
    cases v with
    | ref i =>
      simp only at o1
      split at o1
      · rename_i c fs ea
        split at o1
        · rename_i w hw
          split at o1
          · rename_i hn
            obtain ⟨p, e1, rfl⟩ := vr
            obtain ⟨d, us, f1, h1, h2, _⟩ := rel1.at_ i p _ e1 ea
            obtain ⟨u, hu, vu⟩ := f1.lookup hw
            obtain ⟨t1, t2⟩ := hT.nf _ _ hn
            exact ⟨p, C c, d, us, u, rfl, t1, t2, h1, h2, hu, ok_same rel1 o1 u vu⟩
          · exact o1.elim
        · exact o1.elim
      · exact o1.elim
    | _ => exact o1.elim⟩
/-! ### exceptions made -/
theorem Rel.newExc {r : Pl} {M : Store} {H : Hp} (h : Rel C r M H) {c : Nat} {fs : List (Str × MV)} {us : List (Str × V)} {a d : Addr} (ha : H a = none) (hd : H d = none) (da : d ≠ a) (f : FR r fs us) : Rel C (r ++ [a]) (M ++ [.exc c fs]) (upd (upd H d (.xd us)) a (exq a (C c) d)) := by
  refine h.new ha (fun b ho e => (upd_ne (ne_of_none e ha)).trans ((upd_ne (ne_of_none e hd)).trans e)) ⟨d, us, f.mono (List.prefix_append _ _), upd_same, (upd_ne da).trans upd_same, fun z => ?_⟩
  rcases List.mem_append.mp z with z | z
  · exact h.fresh hd z
  · exact da (List.mem_singleton.mp z)
/-- fields of an exception by its arguments -/
def mf1 (f tag : Str) : List MV → List (Str × MV)
  | [y] => [(f, y), ("tag", .str tag)]
  | _ => []
def mf0 (tag : Str) : List MV → List (Str × MV) := fun _ => [("tag", .str tag)]
def FOk (F : List MV → List (Str × MV)) (G : List V → List (Str × V)) : Prop := ∀ (r : Pl) (vs : List MV) (us : List V), VRs r vs us → FR r (F vs) (G us)
theorem fok1 {f tag : Str} : FOk (mf1 f tag) (fld1 f tag) := fun r vs us h => by
  cases h with
  | nil => exact .nil
  | cons x xs => cases xs with
    | nil => exact .cons ⟨rfl, x⟩ (.cons ⟨rfl, rfl⟩ .nil)
    | cons _ _ => exact .nil
theorem fok0 {tag : Str} : FOk (mf0 tag) (fld0 tag) := fun r vs us h => .cons ⟨rfl, rfl⟩ .nil
def mkX (c : Nat) (F : List MV → List (Str × MV)) (n : Nat) : GA := fun vs M => if vs.length = n then .ok (.ref M.length) (M ++ [.exc c (F vs)]) else .no
theorem mk_imp {c n : Nat} {F : List MV → List (Str × MV)} {G : List V → List (Str × V)} (hF : FOk F G) {fa : AF} (σ : L2.St) (H : Hp) (Q : VK) (h : tE C W (fAp (mkX c F n) fa) σ H Q) : tVlX (C c) G n (tA C W fa) σ H Q := by
  obtain ⟨q, env, M, er, rel, o⟩ := h
  refine ⟨q, env, M, er, rel, o.bnd.imp fun r1 H1 vs _ ⟨M1, p1, rel1, o1⟩ xs vr1 => ?_⟩
  unfold mkX at o1
  split at o1
  · rename_i hl
    exact ⟨by rw [← vr1.len]; exact hl, fun a d ha hd da => o1 (r1 ++ [a]) _ (List.prefix_append _ _) (rel1.newExc ha hd da (hF _ _ _ vr1)) _ rel1.place⟩
  · exact o1.elim
section
variable {c k j n : Nat} {F : List MV → List (Str × MV)} {G : List V → List (Str × V)} {x : Str} {kk : Option Str}
theorem XMk.mono {P : Program} {w : World} {mg : Str → Option Value} {base : Heap} {D : Addr} (M : XMk P w K mg base k D G n kk) (h : k ≤ j) : XMk P w K mg base j D G n kk := by
  obtain ⟨⟨B, newId, initId, bmB, fI, cc, cda, params, bd, scope, qual, fd, ps, T, Y, F1, hb, hk⟩, nz⟩ := M
  exact ⟨⟨B, newId, initId, bmB, fI, cc, cda, params, bd, scope, qual, fd, ps, T, Y, F1.mono h, hb, hk⟩, nz⟩
theorem se_mk {fa : AF} (M : XMk X.prog X.w X.K X.mg X.base k (C c) G n kk) (hF : FOk F G) (hr : Room j X.A) (hk : k + 1 ≤ j) (hg : Gl X x) (hm : X.mg x = some (.ref (C c))) (ha : PA X (e :: es) (tA C W fa))
    (hdb : (x == ("__debug__" : Str)) = false := by decide) (he : starEach (e :: es) X.env = (false, eval e X.env) :: starEach es X.env := by rfl) (hpl : (backTo pos (starEach es X.env)).any (·.1) = false := by rfl) :
    PE X (.Call (.Name x p) (e :: es) [] pos) (tE C W (fAp (mkX c F n) fa)) := PE.imp (pe_x M (hr.mono hk) hg hm ha hdb he hpl) (mk_imp hF)
theorem se_mk0 (M : XMk X.prog X.w X.K X.mg X.base k (C c) G 0 kk) (hF : FOk F G) (hr : Room j X.A) (hk : k + 1 ≤ j) (hg : Gl X x) (hm : X.mg x = some (.ref (C c))) (hdb : (x == ("__debug__" : Str)) = false := by decide) : PE X (.Call (.Name x p) [] [] pos) (tE C W (fAp (mkX c F 0) fNil)) :=
  PE.imp (pe_x0 M (hr.mono hk) hg hm hdb) fun σ H Q ⟨q, env, S, er, rel, o⟩ => ⟨rfl, fun a d ha hd da => o (q ++ [a]) _ (List.prefix_append _ _) (rel.newExc ha hd da (hF _ _ _ .nil)) _ rel.place⟩
theorem se_mkk {kx : Str} {kpos : Pos} {fa : EF} (M : XMk X.prog X.w X.K X.mg X.base k (C c) G 1 (some kx)) (hF : FOk F G) (hr : Room j X.A) (hk : k + 1 ≤ j) (hg : Gl X x) (hm : X.mg x = some (.ref (C c))) (ha : PE X e (tE C W fa)) (hdb : (x == ("__debug__" : Str)) = false := by decide) :
    PE X (.Call (.Name x p) [] [⟨some kx, e, kpos⟩] pos) (tE C W (fAp (mkX c F 1) (fCons fa fNil))) := PE.imp (pe_xk M (hr.mono hk) hg hm ha hdb) fun σ H Q ⟨q, env, S, er, rel, o⟩ => by
  refine ⟨q, env, S, er, rel, (Out.bnd (Out.bnd o)).imp fun r1 H1 v _ ⟨M1, p1, rel1, o1⟩ u vr => ⟨rfl, fun a d ha hd da => ?_⟩⟩
  obtain ⟨M2, p2, rel2, o2⟩ := ok_same rel1 o1
  exact o2 (r1 ++ [a]) _ (List.prefix_append _ _) (rel2.newExc ha hd da (hF _ _ _ (.cons vr .nil))) _ rel2.place
/-- raise C(e, ..) -/
def fRaise (c : Nat) (F : List MV → List (Str × MV)) (n : Nat) (fa : AF) : SF := fun env M => (fa env M).st env fun vs M1 => if vs.length = n then .ex env c (F vs) M1 else .no
theorem ss_raise {fa : AF} (hc : X.calm = true) (tk : Takes X W) (M : XMk X.prog X.w X.K X.mg X.base k (C c) G n kk) (hF : FOk F G) (hr : Room j X.A) (hk : k + 1 ≤ j) (hg : Gl X x) (hm : X.mg x = some (.ref (C c))) (ha : PA X (e :: es) (tA C W fa))
    (hdb : (x == ("__debug__" : Str)) = false := by decide) (he : starEach (e :: es) X.env = (false, eval e X.env) :: starEach es X.env := by rfl) (hpl : (backTo pos (starEach es X.env)).any (·.1) = false := by rfl) :
    PS X (.Raise (some (.Call (.Name x p) (e :: es) [] pos)) none pa) (tS C W (fRaise c F n fa)) :=
  PS.imp (ps_raise hc tk (pmk_x M (hr.mono hk) hg hm ha hdb he hpl)) fun D σ H ⟨r, env, S, er, rel, post⟩ => ⟨r, env, S, er, rel, (PostS.st er post).imp fun r1 H1 vs _ ⟨M1, p1, rel1, o1⟩ us vr => by
    split at o1
    · rename_i hl
      refine ⟨by rw [← vr.len]; exact hl, fun d hd => ?_⟩
      exact o1 r1 σ _ d _ (List.prefix_refl _) (er.mono p1) (rel1.same (upd_keep hd)) upd_same (hF _ _ _ vr) (rel1.fresh hd)
    · exact o1.elim⟩
end
end
end Mini

set_option Elab.async false
set_option linter.all false
set_option maxRecDepth 100000
set_option maxHeartbeats 4000000
namespace Mini
open PySem PySem.Spec PyProof.Rows L2 PySem.W
/-! ### the classes' facts, looked at -/
structure ClsD where
  /-- the classes' names, in the order of their numbers -/
  nm : List Str
  cc : List (List Bool)
  ct : List (String × List Bool)
  nf : List (List Str)
/-- a number behind the classes: the law's own table of code objects -/
def ClsD.C (D : ClsD) (K : Frag) (c : Nat) : Addr := match D.nm[c]? with | some x => He.ga K x | none => (He.cT K ("law", none)).2
def ClsD.T (D : ClsD) : ClsT where
  cc := fun c d => match D.cc[c]? with | some l => l[d]? | none => none
  ct := fun c t => match D.ct.lookup t with | some l => l[c]? | none => none
  nf := fun c f => match D.nf[c]? with | some l => l.contains f | none => false
def xisB (K : Frag) (C : Addr) : Bool := (clsIn K C).isSome && (decide (findIn K (.ref C) "__getattribute__" = some (some (.builtin "BaseException.__getattribute__"))) && ((findIn K (.ref C) "__getattr__").isSome && (decide (subIn K (.ref C) (.type "BaseException") = some true) &&
  (decide (findIn K (.ref C) "__class__" = some (some (.builtin "object.__class__"))) && (decide (specialIn K (.builtin "object.__class__") "__get__" = some (some (.builtin "getset_descriptor.__get__"))) && (decide (takesIn K (.builtin "object.__class__") = some true) && decide (mroIn K C (.type "object") = some true)))))))
theorem xisB_ok {K : Frag} {C : Addr} (h : xisB K C = true) : XisC K C := by
  obtain ⟨h1, h⟩ := He.ba h
  obtain ⟨h2, h⟩ := He.ba h
  obtain ⟨h3, h⟩ := He.ba h
  obtain ⟨h4, h⟩ := He.ba h
  obtain ⟨h5, h⟩ := He.ba h
  obtain ⟨h6, h⟩ := He.ba h
  obtain ⟨h7, h8⟩ := He.ba h
  exact ⟨h1, of_decide_eq_true h2, Option.isSome_iff_exists.mp h3, of_decide_eq_true h4, of_decide_eq_true h5, of_decide_eq_true h6, of_decide_eq_true h7, of_decide_eq_true h8⟩
def ccB (D : ClsD) (K : Frag) : Bool := (List.range D.cc.length).all fun c => xisB K (D.C K c) && (match D.cc[c]? with
  | some l => (List.range l.length).all fun d => (match l[d]? with | some b => decide (kitOne K (.ref (D.C K c)) (.ref (D.C K d)) = some b) | none => true)
  | none => true)
def ctB (D : ClsD) (K : Frag) : Bool := D.ct.all fun q => (List.range q.2.length).all fun c => xisB K (D.C K c) && (match q.2[c]? with | some b => decide (kitOne K (.ref (D.C K c)) (.type q.1) = some b) | none => true)
def nfB (D : ClsD) (K : Frag) : Bool := (List.range D.nf.length).all fun c => xfB K (D.C K c) && (match D.nf[c]? with
  | some l => l.all fun f => decide (findIn K (.ref (D.C K c)) f = some none)
  | none => true)
def ClsD.chk (D : ClsD) (K : Frag) : Bool := ccB D K && (ctB D K && nfB D K)
theorem mem_lookup' {α : Type} {t : String} {l : List (String × α)} {x : α} (h : l.lookup t = some x) : (t, x) ∈ l := by
  induction l with
  | nil => cases h
  | cons p l ih =>
    obtain ⟨a, y⟩ := p
    rw [List.lookup_cons] at h
    cases q : t == a with
    | true => rw [q] at h; cases h; rw [beq_iff_eq.mp q]; exact List.mem_cons_self
    | false => rw [q] at h; exact List.mem_cons_of_mem _ (ih h)
theorem ClsD.ok {D : ClsD} {K : Frag} (h : D.chk K = true) : ClsOk K (D.C K) D.T := by
  obtain ⟨h1, h⟩ := He.ba h
  obtain ⟨h2, h3⟩ := He.ba h
  refine ⟨fun c d b e => ?_, fun c t b e => ?_, fun c f e => ?_⟩
  · have e' : (match D.cc[c]? with | some l => l[d]? | none => none) = some b := e
    cases hc : D.cc[c]? with
    | none => rw [hc] at e'; cases e'
    | some l =>
      rw [hc] at e'
      have lc : c < D.cc.length := (List.getElem?_eq_some_iff.mp hc).1
      obtain ⟨q1, q2⟩ := He.ba (List.all_eq_true.mp h1 c (List.mem_range.mpr lc))
      rw [hc] at q2
      have q3 := List.all_eq_true.mp q2 d (List.mem_range.mpr (List.getElem?_eq_some_iff.mp e').1)
      have e2 : l[d]? = some b := e'
      rw [e2] at q3
      exact ⟨of_decide_eq_true q3, xisB_ok q1⟩
  · have e' : (match D.ct.lookup t with | some l => l[c]? | none => none) = some b := e
    cases hc : D.ct.lookup t with
    | none => rw [hc] at e'; cases e'
    | some l =>
      rw [hc] at e'
      have q0 := List.all_eq_true.mp h2 _ (mem_lookup' hc)
      obtain ⟨q1, q2⟩ := He.ba (List.all_eq_true.mp q0 c (List.mem_range.mpr (List.getElem?_eq_some_iff.mp e').1))
      have e2 : l[c]? = some b := e'
      change (match l[c]? with | some b => _ | none => true) = true at q2
      rw [e2] at q2
      exact ⟨of_decide_eq_true q2, xisB_ok q1⟩
  · have e' : (match D.nf[c]? with | some l => l.contains f | none => false) = true := e
    cases hc : D.nf[c]? with
    | none => rw [hc] at e'; cases e'
    | some l =>
      rw [hc] at e'
      obtain ⟨q1, q2⟩ := He.ba (List.all_eq_true.mp h3 c (List.mem_range.mpr (List.getElem?_eq_some_iff.mp hc).1))
      rw [hc] at q2
      exact ⟨xfB_ok q1, of_decide_eq_true (List.all_eq_true.mp q2 f (List.contains_iff_mem.mp e'))⟩
/-- the classes that may be made: number, base, tag, field -/
structure XcD where
  c : Nat
  base : Nat
  tag : Str
  fld : Option Str
def bmOf : Nat → List Value
  | 0 => [.type "ValueError", .type "Exception", .type "BaseException", .type "object"]
  | 1 => [.type "LookupError", .type "Exception", .type "BaseException", .type "object"]
  | _ => [.type "IndexError", .type "LookupError", .type "Exception", .type "BaseException", .type "object"]
def baseOf : Nat → String
  | 0 => "ValueError" | 1 => "LookupError" | _ => "IndexError"
def newOf : Nat → String
  | 0 => "ValueError.__new__" | 1 => "LookupError.__new__" | _ => "IndexError.__new__"
def initOf : Nat → String
  | 0 => "ValueError.__init__" | 1 => "LookupError.__init__" | _ => "IndexError.__init__"
def XcD.chk (x : XcD) (P : Program) (K : Frag) (D : ClsD) : Bool := xcB K (D.C K x.c) (baseOf x.base) (newOf x.base) (bmOf x.base) && xiB P K (D.C K x.c) (initOf x.base) x.tag x.fld
theorem XcD.ok {x : XcD} {P : Program} {w : World} {K : Frag} {mg : Str → Option Value} {base : Heap} {D : ClsD} {k : Nat} (h : x.chk P K D = true) (hms : mg "super" = none) (hbd : ∀ y, x.fld = some y → BindOk y) : XMk P w K mg base (k + 1) (D.C K x.c) (gOf x.tag x.fld) (nOf x.fld) x.fld := by
  obtain ⟨h1, h2⟩ := He.ba h
  match hb : x.base with
  | 0 => rw [hb] at h1 h2; exact xi_ok (xcB_ok PySem.F.excBase_ValueError PySem.F.store_ValueError kxs_ValueError h1) hms hbd h2
  | 1 => rw [hb] at h1 h2; exact xi_ok (xcB_ok PySem.F.excBase_LookupError PySem.F.store_LookupError kxs_LookupError h1) hms hbd h2
  | n + 2 => rw [hb] at h1 h2; exact xi_ok (xcB_ok PySem.F.excBase_IndexError PySem.F.store_IndexError kxs_IndexError h1) hms hbd h2
end Mini

set_option Elab.async false
set_option linter.all false
set_option maxRecDepth 100000
set_option maxHeartbeats 4000000
namespace Mini
open PySem PySem.Spec PyProof.Rows L2 PySem.W
/-! ### the head's Hook: facts by names, one Bool more; the statics are looked at too, no list is -/
abbrev AlM : Type := He.AlD × Bool
def isL (o : Obj) : Bool := match o.cls with | .type n => n == "list" | _ => false
def frM (n : Nat) (g : Addr → Option Obj) : Frag := (He.frG g (cStatics :: He.asD g n)).filter fun q => !(isL q.2 || He.emptyTab q.2)
theorem frM_at {n : Nat} {g : Addr → Option Obj} {a : Addr} {o : Obj} (h : (frM n g).lookup a = some o) : g a = some o ∧ isL o = false ∧ He.emptyTab o = false := by
  obtain ⟨h1, h2⟩ := List.mem_filter.mp (He.lookup_mem h)
  refine ⟨He.frG_mem h1, ?_⟩
  have h3 : (!(isL o || He.emptyTab o)) = true := h2
  cases q : isL o with
  | false =>
    cases q2 : He.emptyTab o with
    | false => exact ⟨rfl, rfl⟩
    | true => rw [q2, Bool.or_true] at h3; cases h3
  | true => rw [q] at h3; cases h3
def obsM (n : Nat) (fa : List He.Fa) (fn : List He.DefD) (tf : List He.Defn) (ex : Frag → Bool) (g : Addr → Option Obj) : AlM := (He.obsD fa fn (frM n g), ex (frM n g) && He.tabsB g tf (frM n g))
structure SaysM (fa : List He.Fa) (fn : List He.DefD) (tf : List He.Defn) (ex : Frag → Bool) (h : Heap) (K : Frag) : Prop where
  d : He.SaysD fa fn K
  more : ex K = true
  nol : ∀ a o, K.lookup a = some o → isL o = false
  hd : ∀ p ∈ tf, PySem.W.codeHdIn K (He.cT K p).1 (He.cT K p).2 = true
  out : ∀ p ∈ tf, K.lookup (He.cT K p).2 = none
  empty : ∀ p ∈ tf, h.get? (He.cT K p).2 = some { cls := .none, data := .fields #[] }
theorem saysM_of {n : Nat} {fa : List He.Fa} {fn : List He.DefD} {tf : List He.Defn} {ex : Frag → Bool} {h : Heap} (e : obsM n fa fn tf ex h.get? = (He.valD fn, true)) : SaysM fa fn tf ex h (frM n h.get?) := by
  have e1 : He.obsD fa fn (frM n h.get?) = He.valD fn := congrArg (fun z : AlM => z.1) e
  have e2 : (ex (frM n h.get?) && He.tabsB h.get? tf (frM n h.get?)) = true := congrArg (fun z : AlM => z.2) e
  obtain ⟨h1, h2⟩ := He.ba e2
  have key : ∀ p ∈ tf, PySem.W.codeHdIn (frM n h.get?) (He.cT (frM n h.get?) p).1 (He.cT (frM n h.get?) p).2 = true ∧ ∃ o, h.get? (He.cT (frM n h.get?) p).2 = some o ∧ He.emptyTab o = true := fun p hp => by
    obtain ⟨h3, h4⟩ := He.ba (List.all_eq_true.mp h2 p hp)
    refine ⟨h3, ?_⟩
    cases q : h.get? (He.cT (frM n h.get?) p).2 with
    | none => rw [q] at h4; cases h4
    | some o => rw [q] at h4; exact ⟨o, rfl, h4⟩
  refine ⟨e1, h1, fun _ _ z => (frM_at z).2.1, fun p hp => (key p hp).1, fun p hp => ?_, fun p hp => ?_⟩
  · obtain ⟨_, o, q, z⟩ := key p hp
    cases y : (frM n h.get?).lookup (He.cT (frM n h.get?) p).2 with
    | none => rfl
    | some u =>
      obtain ⟨h5, _, h6⟩ := frM_at y
      rw [q] at h5
      cases h5
      rw [z] at h6
      cases h6
  · obtain ⟨_, o, q, z⟩ := key p hp
    rw [q, He.emptyTab_eq z]
def hookM (n : Nat) (fa : List He.Fa) (fn : List He.DefD) (tf : List He.Defn) (ex : Frag → Bool) : Hook where
  α := AlM
  obs := fun s => obsM n fa fn tf ex s.heap.get?
  val := fun _ => (He.valD fn, true)
  says := fun _ h => ∃ K : Frag, K.In h ∧ SaysM fa fn tf ex h K
  of := fun _ _ e => ⟨_, fun _ _ z => (frM_at z).1, saysM_of e⟩
  keeps := fun _ _ _ ⟨K, hK, c⟩ k => ⟨K, Frag.In.keeps hK k, ⟨c.d, c.more, c.nol, c.hd, c.out, fun p hp => k _ _ (c.empty p hp)⟩⟩
theorem obsM_eq {n : Nat} {fa : List He.Fa} {fn : List He.DefD} {tf : List He.Defn} {ex : Frag → Bool} {g : Addr → Option Obj} {s : Shared} (h : ∀ a, g a = s.heap.get? a) : obsM n fa fn tf ex g = (hookM n fa fn tf ex).obs s := by
  rw [funext h] <;> rfl
/-- a def of the text, by its statement -/
def dOf (x : Str) (st : Stmt) : He.DefD := ⟨(x, none), x, x, defArgs st, defBody st, defScope st, [], []⟩
/-- the script is no written thing: it is told in the abstract heap -/
theorem script_rd {K : Frag} {H : Hp} {a : Addr} {xs : List V} (nol : ∀ a o, K.lookup a = some o → isL o = false) (h : SqL K H a xs) : Rd H a (.lst xs) := by
  rcases h with h | ⟨o, its, n, h1, h2, _⟩
  · exact h
  · have := nol a o h1
    unfold isL at this
    rw [h2] at this
    cases this
/-- a promise without exceptions, of one with them -/
theorem FnOk.calm {P : Program} {w : World} {K : Frag} {mg : Str → Option Value} {base : Heap} {k : Nat} {f : Addr} {fd : FuncData} {ps : List Str} {sp : Sp} (F : FnOk P w K mg base (L2.CX P w) k f fd ps sp) : FnOk P w K mg base CX0 k f fd ps (fun vs H Q _ => sp vs H Q fun _ _ _ => False) :=
  ⟨fun vs H Q E h => F.len _ _ _ _ h, fun A outer s H args us vs Q E hr he hb hv hs => codeAny_mono (F.run A outer s H args us vs Q _ hr he hb hv hs) fun r s' h => by
    cases r with
    | ok fl => cases fl <;> exact h
    | error e =>
      obtain ⟨_, _, _, _, _, _, _, _, _, _, _, _, z⟩ := h
      exact z.elim⟩
end Mini

set_option Elab.async false
set_option linter.all false
set_option maxRecDepth 100000
set_option maxHeartbeats 4000000
namespace Mini
open PySem PySem.Spec PyProof.Rows L2 RZ
/-! ### looks at scopes -/
def visC (sc : Scope) (x : Str) : Bool := match sc.names.lookup x with
  | some .local => true
  | some .cell => true
  | some .free => true
  | _ => false
theorem vis_by {sc : Scope} {x : Str} (h : visC sc x = true) : Vis sc x := by
  unfold visC at h
  unfold Vis
  split at h <;> simp_all
def locC (sc : Scope) (x : Str) : Bool := match sc.names.lookup x with
  | some .local => true
  | some .cell => true
  | _ => false
theorem loc_by {sc : Scope} {x : Str} (h : locC sc x = true) : L2.Loc sc x := by
  unfold locC at h
  unfold L2.Loc
  split at h <;> simp_all
section
variable {C : Nat → Addr} {W : WX} {X : Cx} {e a b c o : Expr} {es : List Expr} {pos p px pa : Pos} {K : PySem.W.Frag}
theorem units64 {k : Nat} (hr : Room k X.A) : X.A.units + 64 < cLine := by have := hr.un; omega
/-! ### comparisons as tests -/
theorem st_cmp {op : CmpOp} {r : R2} {g : G2} {fa fb : EF} (ho : OpR X (compareOp op) r) (k : R2Ok C r g) (ha : PE X a (tE C W fa)) (hb : PE X b (tE C W fb)) (hm : behindInMarks op b = false := by rfl) : PT X (.Compare a [op] [b] pos) (tT C W (fBin g fa fb)) :=
  PT.imp (pt_cmpR ho ha hb hm) fun σ H Q ⟨r, env, M, er, rel, o⟩ => op_imp k σ H _ ⟨r, env, M, er, rel, o.imp fun r1 H1 v _ ⟨b, hv, q⟩ u vr => ⟨b, by subst hv; exact vr, q⟩⟩
/-! ### operations by all kinds of operands -/
def gAdd : G2 := gOr gAddI gCat
theorem o_add : OpR X (binaryOp .Add) (fun x y H Q => rI0 (fun i j => .int (i + j)) x y H Q ∨ rCat x y H Q) := op_add.or op_cat
theorem kk_add : R2Ok C (fun x y H Q => rI0 (fun i j => .int (i + j)) x y H Q ∨ rCat x y H Q) gAdd := k_add.or k_cat
def gMul : G2 := gOr gMulI gRep
theorem o_mul : OpR X (binaryOp .Mult) (fun x y H Q => rI CMul (fun i j => .int (i * j)) x y H Q ∨ rRep x y H Q) := op_mul.or op_rep
theorem kk_mul : R2Ok C (fun x y H Q => rI CMul (fun i j => .int (i * j)) x y H Q ∨ rRep x y H Q) gMul := k_mul.or k_rep
def gEq : G2 := gOr gEqS gEqD
theorem o_eq {k : Nat} (hr : Room k X.A) : OpR X (compareOp .Eq) (fun x y H Q => rEq x y H Q ∨ rEqD X.K x y H Q) := op_eq.or (op_eqD (units64 hr))
theorem kk_eq : R2Ok C (fun x y H Q => rEq x y H Q ∨ rEqD K x y H Q) gEq := k_eqS.or k_eqD
def gNe : G2 := gOr gNeS gNeD
theorem o_ne {k : Nat} (hr : Room k X.A) : OpR X (compareOp .NotEq) (fun x y H Q => rNe x y H Q ∨ rNeD X.K x y H Q) := op_ne.or (op_neD (units64 hr))
theorem kk_ne : R2Ok C (fun x y H Q => rNe x y H Q ∨ rNeD K x y H Q) gNe := k_neS.or k_neD
def gIx : G2 := gOr gIxL gIxT
theorem o_ix : IxR X (fun x y H Q => rIxL X.K x y H Q ∨ rIxT X.K x y H Q) := ix_list.or ix_tup
theorem kk_ix : R2Ok C (fun x y H Q => rIxL K x y H Q ∨ rIxT K x y H Q) gIx := k_ixL.or k_ixT
/-! x in a list or a tuple of flat values -/
def fv : MV → Option V
  | .non => some .non
  | .bl b => some (.bl b)
  | .int i => some (.int i)
  | .str z => some (.str z)
  | _ => none
def fvs : List MV → Option (List V)
  | [] => some []
  | v :: vs => match fv v, fvs vs with | some x, some xs => some (x :: xs) | _, _ => none
theorem fv_ok {q : Pl} {v : MV} {x y : V} (h : fv v = some y) (r : VR q v x) : x = y ∧ flatV y = true := by
  cases v with
  | non => cases h; exact ⟨r, rfl⟩
  | bl b => cases h; exact ⟨r, rfl⟩
  | int b => cases h; exact ⟨r, rfl⟩
  | str b => cases h; exact ⟨r, rfl⟩
  | _ => cases h
theorem fvs_ok {q : Pl} : ∀ {vs : List MV} {xs ys : List V}, fvs vs = some ys → VRs q vs xs → xs = ys ∧ ys.all flatV = true
  | [], _, _, h, .nil => by cases h; exact ⟨rfl, rfl⟩
  | v :: vs, x :: xs, ys, h, .cons r rs => by
    unfold fvs at h
    split at h
    · rename_i y ys' h1 h2
      cases h
      obtain ⟨rfl, e2⟩ := fv_ok h1 r
      obtain ⟨rfl, e4⟩ := fvs_ok h2 rs
      exact ⟨rfl, by rw [List.all_cons, e2, e4]; rfl⟩
    · cases h
def inR (neg : Bool) (v : MV) (xs : List MV) (M : Store) : Res MV := match fv v, fvs xs with
  | some y, some ys => .ok (.bl (if neg then !inV y ys else inV y ys)) M
  | _, _ => .no
def gIn (neg : Bool) : G2 := fun v w M => match w with
  | .ref a => (match M[a]? with
    | some (.lst xs) => inR neg v xs M
    | some (.rl xs) => inR neg v xs M
    | some (.tup xs) => inR neg v xs M
    | _ => .no)
  | _ => .no
theorem k_in {neg : Bool} : R2Ok C (rIn K neg) (gIn neg) := by
  intro q M H x y v w E Q rel hx hy hg
  have fin : ∀ {xs : List MV} {us : List V} {p : Addr}, (SqL K H p us ∨ SqT K H p us) → VRs q xs us → Out C q E (inR neg v xs M) (Vk Q) → y = .ref p → rIn K neg x y H Q := fun {xs us p} hq vr ho hp => by
    unfold inR at ho
    split at ho
    · rename_i y' ys h1 h2
      obtain ⟨rfl, e2⟩ := fv_ok h1 hx
      obtain ⟨rfl, e4⟩ := fvs_ok h2 vr
      exact ⟨p, _, hp, hq, e2, e4, ok_same rel ho _ rfl⟩
    · exact ho.elim
  unfold gIn at hg
  cases w with
  | ref a =>
    simp only at hg
    split at hg
    · rename_i xs ea
      obtain ⟨p, us, hp, _, vr, e⟩ := rel.lst hy ea
      exact fin (.inl (SqL.of e)) vr hg hp
    · rename_i xs ea
      obtain ⟨p, us, hp, _, vr, e⟩ := rel.rl hy ea
      exact fin (.inl (SqL.frz e)) vr hg hp
    · rename_i xs ea
      obtain ⟨p, us, hp, _, vr, e⟩ := rel.tup hy ea
      exact fin (.inr (SqT.of e)) vr hg hp
    · exact hg.elim
  | _ => exact hg.elim
end
end Mini
namespace Mini
open PySem PySem.Spec PyProof.Rows L2
theorem gl_by {X : Cx} {x : Str} (h : X.env.scope.names.lookup x = some .globalImplicit) : Gl X x := h
end Mini
namespace Mini
open PySem PySem.Spec PyProof.Rows L2
/-- nothing is promised -/
theorem Fn.zero {P : Program} {w : World} {K : PySem.W.Frag} {mg : Str → Option Value} {base : Heap} {C : Nat → Addr} {x : Str} {params : Arguments} {body : List Stmt} {scope : Scope} {f : Addr} {fd : FuncData} {ps : List Str} {k : Nat} (F : FunD K x x params body scope [] [] f fd) (hm : mg x = some (.ref f)) (hb : Binds K fd ps []) :
    Fn P w K mg base C k x (fun _ _ => .no) ps.length :=
  ⟨f, fd, ps, ⟨fun vs H Q E h => h.1, fun _ _ _ _ _ _ _ _ _ _ _ _ _ ⟨_, _, _, _, _, _, z⟩ => z.elim⟩, hm, F.kp, hb⟩
end Mini
namespace Mini
open PySem PySem.Spec PyProof.Rows L2
section
variable {P : Program} {w : World} {K : PySem.W.Frag} {mg : Str → Option Value} {base : Heap} {C : Nat → Addr} {x : Str} {params : Arguments} {body : List Stmt} {scope : Scope} {f : Addr} {fd : FuncData} {N ps : List Str} {k : Nat} {fb : SF}
/-- the law's own def: its function object told -/
theorem fn_ok (F : FunD K x x params body scope [] [] f fd) (S : FnScope N ps scope)
    (hbody : ∀ (cdv : Value) (A : Around) (outer : List Env) (s : Shared) (H : Hp) (E : XK), Room k (A.deeper (envOfC x scope s.heap.objs.size f cdv)) → PSs (cxOf (L2.CX P w) P w K mg base N x scope f cdv A outer s H E) body (tS C (wE E) fb)) :
    FnOk P w K mg base (L2.CX P w) (k + 1) f fd ps (spF C (gFn N.length fb) ps.length) := by
  refine F.ok S (fun vs H Q E h => h.1) (fun cdv A outer s H vs Q E hr h => ⟨_, hbody cdv A outer s H E hr, ?_⟩)
  obtain ⟨_, r, ws, M, vr, rel, o⟩ := h
  refine ⟨r, start' N.length ws, M, ER.start vr, rel, ?_⟩
  unfold gFn at o
  cases hz : fb (start' N.length ws) M with
  | no => rw [hz] at o; exact o.elim
  | bk e M1 => rw [hz] at o; exact o.elim
  | ct e M1 => rw [hz] at o; exact o.elim
  | rt v M1 => rw [hz] at o; exact fun r1 H1 u p1 rel1 vr1 => o r1 H1 p1 rel1 u vr1
  | nx e M1 => rw [hz] at o; exact fun r1 σ H1 p1 _ rel1 => o r1 H1 p1 rel1 .non rfl
  | ex e c fs M1 => rw [hz] at o; exact fun r1 σ H1 d us p1 _ rel1 e1 f1 n1 => o r1 H1 d us p1 rel1 e1 f1 n1
end
end Mini

set_option Elab.async false
set_option linter.all false
set_option maxRecDepth 100000
set_option maxHeartbeats 4000000
namespace Mini
open PySem PySem.Spec PyProof.Rows L2
/-! ### code that is never reached -/
def fStop : EF := fun _ _ => .no
def fStopS : SF := fun _ _ => .no
section
variable {C : Nat → Addr} {W : WX} {X : Cx} {e : Expr} {st : Stmt} {sts : List Stmt}
theorem se_stop : PE X e (tE C W fStop) := ⟨fun _ _ _ _ _ _ ⟨_, _, _, _, _, o⟩ => o.elim⟩
theorem st_stop : PT X e (tT C W fStop) := ⟨fun _ _ _ _ _ _ ⟨_, _, _, _, _, o⟩ => o.elim⟩
theorem ss_stop : PSs X sts (tS C W fStopS) := ⟨fun _ _ _ _ _ _ ⟨_, _, _, _, _, o⟩ => o.elim⟩
end
/-! ### an exception that was caught is told from now on -/
section
variable {X : Cx} {pins : List (Addr × Obj)} {σ : L2.St} {H : Hp} {s : Shared}
theorem trackOld {a : Addr} {o : HO} (I : Inv X pins σ H s) (h0 : X.s_0.heap.get? a = none) (na : H a = none) (nL : a ≠ X.env.locals) (nc : ∀ x c, X.env.cells.lookup x = some c → c ≠ a) (np : ∀ p ∈ X.pn ++ pins, p.1 ≠ a) (new : ObjOk X.prog X.w (upd H a o) s.heap a o) : Inv X pins σ (upd H a o) s := by
  refine ⟨I.ok, I.os, I.bare, ⟨I.base.keep, I.base.slot, fun b u q n hx => (upd_ne fun z => ?_).trans (I.base.free b u q n hx), I.base.there, fun b xs q => ?_, fun b u xs q => ?_, fun b ps q => ?_⟩, I.loc, I.cell, (upd_ne nL.symm).trans I.free, fun x c e => (upd_ne (nc x c e)).trans (I.freeC x c e), fun p hp => ?_, fun b u q => ?_, I.len⟩
  · rw [z, h0] at q
    cases q
  · have z := I.base.tups b xs q
    exact (upd_ne (ne_of_none z na)).trans z
  · have z := I.base.frzs b u xs q
    exact (upd_ne (ne_of_none z na)).trans z
  · obtain ⟨more, z⟩ := I.base.tbls b ps q
    exact ⟨more, (upd_ne (ne_of_none z na)).trans z⟩
  · obtain ⟨p1, p2, p3⟩ := I.pin p hp
    exact ⟨p1, (upd_ne (np p hp)).trans p2, p3⟩
  · by_cases hb : b = a
    · subst hb
      rw [upd_same] at q
      cases q
      exact new
    · rw [upd_ne hb] at q
      exact (I.hok b u q).stay (fun c v _ r => r) (fun c r => (upd_ne (ne_of_none r na)).trans r) fun c xs r => (upd_ne (ne_of_none r na)).trans r
/-- a suite's context in which the exception is no pin but told -/
abbrev suiteQ (X : Cx) (a : Addr) (pn : List (Addr × Obj)) : Cx := X.suite a pn
theorem inv_suiteQ (I : Inv X pins σ H s) {a : Addr} : Inv (suiteQ X a (X.pn ++ pins)) [] σ H s :=
  ⟨I.ok.suite _ _, I.os, I.bare, I.base, I.loc, I.cell, I.free, I.freeC, fun p hp => I.pin p (by rw [List.append_nil] at hp; exact hp), I.hok, I.len⟩
theorem inv_unQ {a : Addr} {pn' : List (Addr × Obj)} (I : Inv (suiteQ X a (X.pn ++ pins)) pn' σ H s) (ok : X.Ok) : Inv X pins σ H s :=
  ⟨ok, I.os, I.bare, I.base, I.loc, I.cell, I.free, I.freeC, fun p hp => I.pin p (List.mem_append_left _ hp), I.hok, I.len⟩
end
theorem flying_push {B : Heap} {l : List Env} {a : Addr} {Z : Obj → Prop} {h : Heap} {o : Obj} (f : HandSPX.FlyingZ B l a Z h) : HandSPX.FlyingZ B l a Z (h.push o) := by
  have k : ∀ b u, h.get? b = some u → (h.push o).get? b = some u := fun b u e => Heap.get?_push_of_some _ e
  obtain ⟨f1, f2, f3, oe, vs, T, oT, ts, t1, t2, t3, t4, t5, t6, t7, t8, t9⟩ := f
  exact ⟨fun b u e => k b u (f1 b u e), f2, Heap.FunFrames.of_keeps (fun b u e _ => ⟨u, k b u e, rfl⟩) f3, oe, vs, T, oT, ts, k _ _ t1, t2, t3, t4, t5, t6, k _ _ t7, t8, t9⟩
/-! ### try: body, except (A, B, C) as e: suite -/
def wTry (K : PySem.W.Frag) (c1 c2 c3 : Addr) (i n : Nat) (ts : TS) (D : Ends) : WX := fun cls d σ H => σ.length = n → ∃ (Cc dd : Addr) (us : List (Str × V)), cls = .ref Cc ∧ d = some dd ∧ H dd = some (.xd us) ∧ PySem.W.exmAny K (.ref Cc) [.ref c1, .ref c2, .ref c3] = some true ∧
  ∀ a, H a = none → dd ≠ a → ts { nx := fun σ' H' => D.nx (σ'.set i none) H', rt := D.rt, bk := fun σ' H' => D.bk (σ'.set i none) H', ct := fun σ' H' => D.ct (σ'.set i none) H' } (σ.set i (some (.ref a))) (upd H a (exq a Cc dd))
section
variable {X : Cx} {x1 x2 x3 n : Str} {c1 c2 c3 : Addr} {i : Nat} {body suite : List Stmt} {b₀ : Stmt} {np1 np2 np3 pt pos pos' : Pos} {kk : Nat} {tb : WX → TS} {ts : TS}
theorem ps_try3 (hs : X.stack = X.env :: X.outer) (hf : X.env.frame = some X.env.locals) (hex : X.ex = []) (hN : X.N.Nodup) (hi : X.N[i]? = some n) (hln : X.env.kindOf n = some .local)
    (g1 : Gl X x1) (g2 : Gl X x2) (g3 : Gl X x3) (m1 : X.mg x1 = some (.ref c1)) (m2 : X.mg x2 = some (.ref c2)) (m3 : X.mg x3 = some (.ref c3)) (d1 : (x1 == ("__debug__" : Str)) = false) (d2 : (x2 == ("__debug__" : Str)) = false) (d3 : (x3 == ("__debug__" : Str)) = false)
    (hb : ∀ (W : WX) (pn : List (Addr × Obj)) (xe : Value → Shared → Prop), Takes (X.tr pn xe) W → PassesOwn (model X.prog X.w) X.A X.env xe → PSs (X.tr pn xe) body (tb W))
    (hsu : ∀ (a : Addr) (pn : List (Addr × Obj)), PSs (suiteQ X a pn) (b₀ :: suite) ts) :
    PS X (.Try body [.ExceptHandler (some (.Tuple [.Name x1 np1, .Name x2 np2, .Name x3 np3] kk pt)) (some n) (b₀ :: suite) pos'] [] [] pos) (fun D σ H => tb (wTry X.K c1 c2 c3 i X.N.length ts D) D σ H) := by
  refine ⟨fun pins s σ H D I h => ?_⟩
  have ok := I.ok
  have hfr : X.A.frames = some (X.env :: X.outer) := by rw [ok.frames, hs]
  refine wpAny_Try_except ?_
  refine wpAny_mono ((hb (wTry X.K c1 c2 c3 i X.N.length ts D) (X.pn ++ pins) (fun e s₁ => wpAny (model X.prog X.w) X.A (noteFrame e X.env) (fun _ s₂ => wpAny (model X.prog X.w) X.A (setFlight e none) (fun _ s₃ =>
    wpAny (model X.prog X.w) X.A (handleBy e X.env [.ExceptHandler (some (.Tuple [.Name x1 np1, .Name x2 np2, .Name x3 np3] kk pt)) (some n) (b₀ :: suite) pos']) (SP X pins D) X.xe s₃) X.xe s₂) X.xe s₁) (fun u s' xx => ?_) PassesOwn.looking).run [] s σ H D (I.toTry _) h) (fun f s1 hsp => ?_) (fun e s1 he => he)
  · obtain ⟨a, B, sI, pins', σ', H', cls, d, rfl, J', nb, up, sky, na, os, ag, hxx⟩ := xx
    obtain ⟨Cc, dd, us, ec, ed, eu, hm, hyes⟩ := hxx J'.len
    subst ec ed
    have J : Inv X pins σ' H' sI := J'.ofTry ok
    have sky' : Sky B (X.env :: X.outer) a (Zc (.ref Cc) (some dd)) X.env.locals s'.heap := by rw [← hs]; exact sky
    show wpAny (model X.prog X.w) X.A (noteFrame (.ref a) X.env) _ _ _
    refine Sky.land Zc.steady hfr hf sky' fun h3 fl3 up3 => ?_
    have J3 : Inv X pins σ' H' { s' with heap := h3 } := J.landed nb fl3.1 (up.trans up3) os ag
    obtain ⟨oe3, vs3, he3, hz3, hd3⟩ := fl3.there
    have nfr : a ∉ frs (X.env :: X.outer) := fun hm => by
      obtain ⟨_, o', e', hnf⟩ := fl3.2.2.1.mem hm
      rw [he3] at e'
      cases e'
      exact hnf _ hd3
    have nL : a ≠ X.env.locals := fun z => nfr (List.mem_filterMap.mpr ⟨X.env, List.mem_cons_self, by rw [hf, z]⟩)
    -- the exception is none of the entry's objects
    have nI : sI.heap.get? a = none := by
      cases q : sI.heap.get? a with
      | none => rfl
      | some o =>
        have z := nb a o q (by rw [hs]; exact nfr)
        rw [fl3.2.1] at z
        cases z
    have n0 : X.s_0.heap.get? a = none := by
      cases q : X.s_0.heap.get? a with
      | none => rfl
      | some o =>
        obtain ⟨o', z⟩ := J.base.there a o q (by rw [hex]; simp)
        rw [nI] at z
        cases z
    have nC : ∀ x c, X.env.cells.lookup x = some c → c ≠ a := fun x c e z => by
      obtain ⟨v, o, ho, _⟩ := J.cell x c e
      rw [z, nI] at ho
      cases ho
    have nP : ∀ p ∈ X.pn ++ pins, p.1 ≠ a := fun p hp z => by
      have q := (J.pin p hp).1
      rw [z, nI] at q
      cases q
    have da : dd ≠ a := fun z => by
      rw [z, na] at eu
      cases eu
    have S3 : Inv (suiteQ X a (X.pn ++ pins)) [] σ' H' { s' with heap := h3 } := inv_suiteQ J3
    refine wpAny_handleBy_cons (codeAny_handlers_test ?_) (by intro q; cases q)
    refine wpAny_Tuple_spliced (Calls.spliced_cons (ld_glob (X := suiteQ X a (X.pn ++ pins)) S3 g1 m1 (Calls.spliced_cons (ld_glob (X := suiteQ X a (X.pn ++ pins)) S3 g2 m2 (Calls.spliced_cons (ld_glob (X := suiteQ X a (X.pn ++ pins)) S3 g3 m3 (Calls.spliced_nil ⟨show 3 ≤ sizeLine by decide, ?_⟩) d3)) d2)) d1))
    have fl5 := flying_push (o := { cls := .type "tuple", data := .seq (([.ref c1, .ref c2, .ref c3] : List Value).toArray) }) fl3
    have up5 : h3.UpToSlots (h3.push { cls := .type "tuple", data := .seq (([.ref c1, .ref c2, .ref c3] : List Value).toArray) }) := Heap.UpToSlots.of_keeps fun b o e => Heap.get?_push_of_some _ e
    have J5 : Inv X pins σ' H' { s' with heap := h3.push { cls := .type "tuple", data := .seq (([.ref c1, .ref c2, .ref c3] : List Value).toArray) } } := J.landed nb fl5.1 ((up.trans up3).trans up5) os ag
    have he5 : (h3.push { cls := .type "tuple", data := .seq (([.ref c1, .ref c2, .ref c3] : List Value).toArray) }).get? a = some oe3 := Heap.get?_push_of_some _ he3
    have LT : PySem.W.Looks (model X.prog X.w) (h3.push { cls := .type "tuple", data := .seq (([.ref c1, .ref c2, .ref c3] : List Value).toArray) }) (typeOf (.ref a)) (.ref Cc) := fun A Q E s k q => wpAny_typeOf_ref (k _ _ he5) (by rw [hz3.1]; exact q)
    have LM := PySem.W.exm_tup3 (M := model X.prog X.w) J5.kIn LT (Heap.get?_push_size _ rfl) hm
    refine LM.here ?_
    refine codeAny_handlers_suite_as ?_
    refine HandSPX.lands_againZ fl5 fun h4 fl4 up4 => ?_
    have J4 : Inv X pins σ' H' { s' with heap := h4 } := J.landed nb fl4.1 (((up.trans up3).trans up5).trans up4) os ag
    obtain ⟨oe4, vs4, he4, hz4, hd4⟩ := fl4.there
    have S4 : Inv (suiteQ X a (X.pn ++ pins)) [] σ' (upd H' a (exq a Cc dd)) { s' with heap := h4 } := inv_suiteQ (trackOld J4 n0 na nL nC nP (by
      obtain ⟨oc, od, odt, osl⟩ := oe4
      obtain ⟨z1, z2⟩ := hz4
      dsimp only at z1 z2 hd4
      subst z1 z2 hd4
      exact exq_ok he4))
    refine store_ok (X := suiteQ X a (X.pn ++ pins)) (v := .ref a) S4 hN hi (.inl hln) rfl (fun s5 S5 => ?_) (.inr hln)
    refine wpAny_mono ((hsu a (X.pn ++ pins)).run [] s5 _ _ _ S5 (hyes a na da)) (fun f s6 hsp => ?_) (fun _ _ z => False.elim z)
    have end_ : ∀ {σ6 : L2.St} {H6 : Hp} {Q : Shared → Prop}, Inv (suiteQ X a (X.pn ++ pins)) [] σ6 H6 s6 → (∀ s7, Inv X pins (σ6.set i none) H6 s7 → Q s7) → wpAny (model X.prog X.w) X.A (do bindName X.env n .none; unbindBehindTheSuite X.env n pos') (fun _ s7 => Q s7) X.xe s6 := fun S6 hq => gone_ok (inv_unQ S6 ok) hN hi hln hq
    cases f with
    | next => exact hsp.elim fun σ6 ⟨H6, S6, q6⟩ => end_ S6 fun s7 J7 => ⟨_, _, J7, q6⟩
    | brk => exact hsp.elim fun σ6 ⟨H6, S6, q6⟩ => end_ S6 fun s7 J7 => ⟨_, _, J7, q6⟩
    | cont => exact hsp.elim fun σ6 ⟨H6, S6, q6⟩ => end_ S6 fun s7 J7 => ⟨_, _, J7, q6⟩
    | ret u => exact hsp.elim fun v6 ⟨σ6, H6, S6, r6, q6⟩ => end_ S6 fun s7 J7 => ⟨_, _, _, J7, r6, q6⟩
  · cases f with
    | next =>
      obtain ⟨σ', H', J', q⟩ := hsp
      exact wpAny_execs_nil ⟨σ', H', J'.ofTry ok, q⟩
    | brk =>
      obtain ⟨σ', H', J', q⟩ := hsp
      exact ⟨σ', H', J'.ofTry ok, q⟩
    | cont =>
      obtain ⟨σ', H', J', q⟩ := hsp
      exact ⟨σ', H', J'.ofTry ok, q⟩
    | ret u =>
      obtain ⟨v, σ', H', J', r, q⟩ := hsp
      exact ⟨v, σ', H', J'.ofTry ok, r, q⟩
end
/-! the statement of the small machine -/
def fTry (mt : Nat → Bool) (i : Nat) (fb fs : SF) : SF := fun env M => match fb env M with
  | .ex e1 c fl M1 => if mt c = true then (match fs (e1.set i (some (.ref M1.length))) (M1 ++ [.exc c fl]) with
    | .nx e2 M2 => .nx (e2.set i none) M2
    | .bk e2 M2 => .bk (e2.set i none) M2
    | .ct e2 M2 => .ct (e2.set i none) M2
    | .rt v M2 => .rt v M2
    | _ => .no) else .no
  | z => z
section
variable {C : Nat → Addr} {W : WX} {X : Cx} {x1 x2 x3 n : Str} {c1 c2 c3 : Addr} {i : Nat} {body suite : List Stmt} {b₀ : Stmt} {np1 np2 np3 pt pos pos' : Pos} {kk : Nat} {mt : Nat → Bool} {fb fs : SF}
theorem ss_try (hs : X.stack = X.env :: X.outer) (hf : X.env.frame = some X.env.locals) (hex : X.ex = []) (hN : X.N.Nodup) (hi : X.N[i]? = some n) (hln : X.env.kindOf n = some .local)
    (g1 : Gl X x1) (g2 : Gl X x2) (g3 : Gl X x3) (m1 : X.mg x1 = some (.ref c1)) (m2 : X.mg x2 = some (.ref c2)) (m3 : X.mg x3 = some (.ref c3)) (d1 : (x1 == ("__debug__" : Str)) = false) (d2 : (x2 == ("__debug__" : Str)) = false) (d3 : (x3 == ("__debug__" : Str)) = false)
    (hm : ∀ c, mt c = true → PySem.W.exmAny X.K (.ref (C c)) [.ref c1, .ref c2, .ref c3] = some true)
    (hb : ∀ (W : WX) (pn : List (Addr × Obj)) (xe : Value → Shared → Prop), Takes (X.tr pn xe) W → PassesOwn (model X.prog X.w) X.A X.env xe → PSs (X.tr pn xe) body (tS C W fb))
    (hsu : ∀ (a : Addr) (pn : List (Addr × Obj)), PSs (suiteQ X a pn) (b₀ :: suite) (tS C W0 fs)) :
    PS X (.Try body [.ExceptHandler (some (.Tuple [.Name x1 np1, .Name x2 np2, .Name x3 np3] kk pt)) (some n) (b₀ :: suite) pos'] [] [] pos) (tS C W (fTry mt i fb fs)) :=
  PS.imp (ps_try3 (tb := fun W => tS C W fb) (ts := tS C W0 fs) hs hf hex hN hi hln g1 g2 g3 m1 m2 m3 d1 d2 d3 hb hsu) fun D σ H ⟨r, env, M, er, rel, post⟩ => by
    refine ⟨r, env, M, er, rel, ?_⟩
    unfold fTry at post
    cases hz : fb env M with
    | ex e1 c fl M1 =>
      rw [hz] at post
      simp only at post
      split at post
      · rename_i hc
        refine fun r1 σ1 H1 d us p1 er1 rel1 ed fr nd _ => ⟨C c, d, us, rfl, rfl, ed, hm c hc, fun a na da => ?_⟩
        have rel2 : Rel C (r1 ++ [a]) (M1 ++ [.exc c fl]) (upd H1 a (exq a (C c) d)) := by
          refine rel1.new na (upd_keep na) ⟨d, us, fr.mono (List.prefix_append _ _), upd_same, (upd_ne da).trans ed, fun z => ?_⟩
          rcases List.mem_append.mp z with z | z
          · exact nd z
          · exact da (List.mem_singleton.mp z)
        refine ⟨r1 ++ [a], e1.set i (some (.ref M1.length)), M1 ++ [.exc c fl], ER.set (show SR' (r1 ++ [a]) (some (.ref M1.length)) (some (.ref a)) from rel1.place) i (er1.mono (List.prefix_append _ _)), rel2, ?_⟩
        have pre : r <+: r1 ++ [a] := p1.trans (List.prefix_append _ _)
        cases hy : fs (e1.set i (some (.ref M1.length))) (M1 ++ [.exc c fl]) with
        | nx e2 M2 => rw [hy] at post; exact fun r2 σ2 H2 p2 er2 rel2 => post r2 _ H2 (pre.trans p2) (ER.set (v := none) (u := none) True.intro i er2) rel2
        | bk e2 M2 => rw [hy] at post; exact fun r2 σ2 H2 p2 er2 rel2 => post r2 _ H2 (pre.trans p2) (ER.set (v := none) (u := none) True.intro i er2) rel2
        | ct e2 M2 => rw [hy] at post; exact fun r2 σ2 H2 p2 er2 rel2 => post r2 _ H2 (pre.trans p2) (ER.set (v := none) (u := none) True.intro i er2) rel2
        | rt v M2 => rw [hy] at post; exact fun r2 H2 u p2 rel2 vr2 => post r2 H2 u (pre.trans p2) rel2 vr2
        | no => rw [hy] at post; exact post.elim
        | ex _ _ _ _ => rw [hy] at post; exact post.elim
      · exact post.elim
    | _ => rw [hz] at post; exact post
end
/-! ### a def that is called within an except suite -/
structure FnQ (P : Program) (w : World) (K : PySem.W.Frag) (mg : Str → Option Value) (base : Heap) (k : Nat) (f : Addr) (fd : FuncData) (ps : List Str) (sp : Sp) : Prop where
  len : ∀ vs H Q E, sp vs H Q E → vs.length = ps.length
  run : ∀ (A : Around) (outer : List Env) (s : Shared) (H : Hp) (args : Args) (us : List Value) (vs : List V) (Q : VK) (E : XK), L2H.RoomH k A → Env0 P w K mg base A outer s H → BindsTo s fd args (ps.zip us) → Vals vs us → sp vs H Q E →
    codeAny (model P w) A (.call (.ref f) args) (CR (L2.CX P w) outer P w H s Q E) s
/-- the context of its body: no pin, nothing said of the handled exception -/
abbrev cxQ (P : Program) (w : World) (K : PySem.W.Frag) (mg : Str → Option Value) (base : Heap) (N : List Str) (qual : Str) (scope : Scope) (f : Addr) (cd : Value) (A : Around) (outer : List Env) (s : Shared) (H : Hp) (E : XK) : Cx :=
  { cxOf (L2.CX P w) P w K mg base N qual scope f cd A outer s H E with calm := false }
section
variable {P : Program} {w : World} {K : PySem.W.Frag} {mg : Str → Option Value} {base : Heap} {C : Nat → Addr} {x : Str} {params : Arguments} {body : List Stmt} {scope : Scope} {f : Addr} {fd : FuncData} {N ps : List Str} {k : Nat} {fb : SF}
theorem fnq_of {sp : Sp} (F : FunD K x x params body scope [] [] f fd) (S : FnScope N ps scope) (len : ∀ vs H Q E, sp vs H Q E → vs.length = ps.length)
    (hbody : ∀ (cdv : Value) (A : Around) (outer : List Env) (s : Shared) (H : Hp) (vs : List V) (Q : VK) (E : XK), L2H.RoomH k (A.deeper (envOfC x scope s.heap.objs.size f cdv)) → sp vs H Q E →
      ∃ t, PSs (cxQ P w K mg base N x scope f cdv A outer s H E) body t ∧ t { nx := fun _ H' => Q .non H', rt := Q } (L2.start N vs) H) : FnQ P w K mg base (k + 1) f fd ps sp := by
  obtain ⟨oc, od, dV, kV, doc, pm, an, cdv, ct, osl, rfl, lk, hcd, _, _⟩ := F.ex
  refine ⟨len, fun A outer s H args us vs Q E hr e0 hb r hsp => ?_⟩
  have hl := len _ _ _ _ hsp
  have bf := e0.bs f _ (e0.mod.kin _ _ lk)
  have KX : K.In s.heap := e0.mod.kin.keeps fun b o e => (e0.bs b o e).1
  have lim : s.heap.NoLimit := e0.mod.nolimit.keeps fun b o e => (e0.bs b o e).1
  have hkind : ∀ y ∈ ps.zip us, scope.names.lookup y.1 = some .local ∨ (scope.names.lookup y.1 = some .cell ∧ ((cellsFrom (s.heap.objs.size + 1) scope.names []).lookup y.1).isSome = true) := fun ⟨n, v⟩ hy => (S.par n (List.of_mem_zip hy).1).imp id fun q => ⟨q, PySem.W.cellsFrom_some _ _ _ (.inl q)⟩
  have hpin : L2H.PinOk outer H s (f, ⟨oc, od, .func (PySem.W.fnOf x x params body scope dV kV doc pm an cdv ct), osl⟩) := ⟨bf.1, bf.2, (fun hm => by
    obtain ⟨z, _⟩ := e0.funs.mem hm
    rw [e0.mod.kin _ _ lk] at z
    cases z), (fun v z => by cases z)⟩
  refine codeAny_call_function hr.depth (KX _ _ lk) rfl S.co S.gen rfl (PySem.W.codeRec_of KX hcd) (hb _ _ _ _ ?_)
  refine wpAny_newFunctionEnv_cells S.kind hkind fun env he s1 xx => ?_
  subst he
  refine ⟨lim.keeps xx.toInCall.keep, codeAny_func ?_⟩
  obtain ⟨t, ht, hq⟩ := hbody cdv A outer s H vs Q E (hr.deeper _) hsp
  have I0 := L2H.inv_startH (CX := L2.CX P w) (E := E) (cd := cdv) S hpin e0 hl r xx
  have I : Inv (cxQ P w K mg base N x scope f cdv A outer s H E) [] (L2.start N vs) H s1 := ⟨⟨I0.ok.mod, I0.ok.kind, I0.ok.glob, I0.ok.blt, I0.ok.above, I0.ok.inj, I0.ok.has, I0.ok.cab, fun z => Bool.noConfusion (show false = true from z), I0.ok.frames, I0.ok.stk, I0.ok.exf, I0.ok.bs, I0.ok.bsz, I0.ok.noex, I0.ok.exfs, I0.ok.funs, I0.ok.frf⟩, I0.os, I0.bare, I0.base, I0.loc, I0.cell, I0.free, I0.freeC, fun p hp => absurd (show p ∈ ([] : List (Addr × Obj)) from hp) (by simp), I0.hok, I0.len⟩
  refine wpAny_mono (ht.run [] s1 (L2.start N vs) H _ I hq) (fun fl s' hs => ?_) fun e s' hs => hs
  have fin : ∀ {σ' : L2.St} {H' : Hp} {v : V} {u : Value}, Inv (cxQ P w K mg base N x scope f cdv A outer s H E) [] σ' H' s' → RelV v u → Q v H' → CE outer P w H s Q u s' := fun J rv q => ⟨_, _, J.os, J.bare, J.base, J.hok, rv, q⟩
  cases fl with
  | ret u => exact hs.elim fun v ⟨σ', H', J, rv, q⟩ => fin J rv q
  | next => exact hs.elim fun σ' ⟨H', J, q⟩ => fin (v := V.non) (u := Value.none) J rfl q
  | brk => exact hs.elim fun _ z => z.elim fun _ z => z.2.elim
  | cont => exact hs.elim fun _ z => z.elim fun _ z => z.2.elim
/-- .. by what it computes -/
structure FnS (P : Program) (w : World) (K : PySem.W.Frag) (mg : Str → Option Value) (base : Heap) (C : Nat → Addr) (k : Nat) (x : Str) (g : GA) (n : Nat) : Prop where
  ex : ∃ (f : Addr) (fd : FuncData) (ps : List Str), FnQ P w K mg base k f fd ps (spF C g n) ∧ mg x = some (.ref f) ∧ PySem.W.keepIn K (.ref f) = true ∧ Binds K fd ps []
/-- no exception leaves it -/
def gQ (g : GA) : GA := fun vs M => match g vs M with
  | .ok v M1 => .ok v M1
  | _ => .no
theorem fns_def (F : FunD K x x params body scope [] [] f fd) (hm : mg x = some (.ref f)) (S : FnScope N ps scope) (hb : Binds K fd ps [])
    (hbody : ∀ (cdv : Value) (A : Around) (outer : List Env) (s : Shared) (H : Hp) (E : XK), L2H.RoomH k (A.deeper (envOfC x scope s.heap.objs.size f cdv)) → PSs (cxQ P w K mg base N x scope f cdv A outer s H E) body (tS C W0 fb)) :
    FnS P w K mg base C (k + 1) x (gQ (gFn N.length fb)) ps.length := by
  refine ⟨f, fd, ps, fnq_of F S (fun vs H Q E h => h.1) (fun cdv A outer s H vs Q E hr h => ⟨_, hbody cdv A outer s H E hr, ?_⟩), hm, F.kp, hb⟩
  obtain ⟨_, r, ws, M, vr, rel, o⟩ := h
  refine ⟨r, start' N.length ws, M, ER.start vr, rel, ?_⟩
  unfold gQ gFn at o
  cases hz : fb (start' N.length ws) M with
  | no => rw [hz] at o; exact o.elim
  | bk e M1 => rw [hz] at o; exact o.elim
  | ct e M1 => rw [hz] at o; exact o.elim
  | rt v M1 => rw [hz] at o; exact fun r1 H1 u p1 rel1 vr1 => o r1 H1 p1 rel1 u vr1
  | nx e M1 => rw [hz] at o; exact fun r1 σ H1 p1 _ rel1 => o r1 H1 p1 rel1 .non rfl
  | ex e c fs M1 => rw [hz] at o; exact o.elim
end
section
variable {C : Nat → Addr} {W : WX} {X : Cx} {e : Expr} {es : List Expr} {pos p : Pos}
theorem run_fnQ {k : Nat} {f : Addr} {fd : FuncData} {ps : List Str} {sp : Sp} {pins : List (Addr × Obj)} {σ : L2.St} {H : Hp} {s : Shared} {Q : VK} {us : List Value} {vs : List V} (F : FnQ X.prog X.w X.K X.mg X.base k f fd ps sp) (hr : L2H.RoomH k X.A) (tk : Takes X W)
    (hb : Binds X.K fd ps []) (I : Inv X pins σ H s) (r : Vals vs us) (h : sp vs H Q (wx W σ)) : wpAny (model X.prog X.w) X.A (call (.ref f) us) (EP X pins σ Q) X.xe s := by
  have hl : (us ++ []).length = ps.length := by rw [List.append_nil]; exact r.length.symm.trans (F.len _ _ _ _ h)
  have bb := hb s us I.kIn hl
  rw [List.append_nil] at bb
  refine wpAny_call (codeAny_mono (F.run X.A X.stack s H ⟨us, []⟩ us vs Q _ hr I.env0 bb r h) fun z s' hq => ?_)
  cases z with
  | error e => exact tk e s' (XE.of_call I (fun _ _ _ q => q) hq)
  | ok fl =>
    cases fl with
    | ret u => exact I.after hq
    | next => exact hq.elim
    | brk => exact hq.elim
    | cont => exact hq.elim
theorem se_callQ {k : Nat} {g : GA} {n : Nat} {x : Str} {fa : AF} (F : FnS X.prog X.w X.K X.mg X.base C k x g n) (hr : L2H.RoomH k X.A) (tk : Takes X W) (hg : Gl X x)
    (ha : PA X (e :: es) (tA C W fa)) (hfa : ∀ env M vs M', fa env M = .ok vs M' → vs.length = n) (hdb : (x == ("__debug__" : Str)) = false := by decide) (he : starEach (e :: es) X.env = (false, eval e X.env) :: starEach es X.env := by rfl) (hpl : (backTo pos (starEach es X.env)).any (·.1) = false := by rfl) :
    PE X (.Call (.Name x p) (e :: es) [] pos) (tE C W (fAp g fa)) := by
  obtain ⟨f, fd, ps, F1, hm, hkp, hb⟩ := F.ex
  refine ⟨fun pins s σ H Q I ⟨r, env, M, er, rel, o⟩ => wpAny_Call_Name_kw (ld_glob I hg hm ?_ hdb)⟩
  refine PySem.W.callWith_K (h₀ := X.base) I.ok.mod.kin hkp (thn (ha.run pos pins s σ H (fun vs H1 => spF C g n vs H1 Q (wx W σ)) I ⟨r, env, M, er, rel, ?_⟩) fun us s1 ⟨vs, H1, I1, r1, q⟩ => ⟨I1.kIn, run_fnQ F1 hr tk hb I1 r1 q⟩) he hpl
  have hl := hfa env M
  unfold fAp at o
  cases hz : fa env M with
  | no => rw [hz] at o; exact o.elim
  | ex c fs M1 => rw [hz] at o; exact o
  | ok vs M1 =>
    rw [hz] at o
    exact fun r1 H1 p1 rel1 us vr1 => ⟨by rw [← vr1.len]; exact hl _ _ hz, r1, vs, M1, vr1, rel1, Out.mono p1 (z := g vs M1) o⟩
end
end Mini

set_option Elab.async false
set_option linter.all false
set_option maxRecDepth 100000
set_option maxHeartbeats 4000000
namespace Mini
open PySem PySem.Spec PyProof.Rows L2
/-! ### a def that calls a lambda in a try and tells what came: value or exception -/
def sWhy (n : Nat) (mt : Nat → Bool) (fs : SF) : Res MV → Res MV
  | .ok v M1 => .ok (.ref M1.length) (M1 ++ [.tup [.str "value", v]])
  | .ex c fl M1 => if mt c = true then (match fs ((List.replicate n none).set 1 (some (.ref M1.length))) (M1 ++ [.exc c fl]) with
    | .rt v M2 => .ok v M2
    | _ => .no) else .no
  | .no => .no
def TWhy (C : Nat → Addr) (n : Nat) (mt : Nat → Bool) (fs : SF) (tl : XK → Hp → VK → Prop) (H : Hp) (Q : VK) : Prop := ∃ (r : Pl) (M : Store) (o : Res MV) (Ew : XK), Rel C r M H ∧ (∀ E Q', Out C r E o (Vk Q') → tl E H Q') ∧ Out C r Ew (sWhy n mt fs o) (Vk Q)
theorem er_none {r : Pl} : ∀ {σ : L2.St} {n : Nat}, σ.length = n → ER r (List.replicate n none) σ
  | [], _, h => by cases h; exact .nil
  | x :: σ, _, h => by cases h; exact .cons (by cases x <;> exact True.intro) (er_none rfl)
section
variable {C : Nat → Addr} {X : Cx}
theorem why_gives {Ng : List Str} {x a nm q x1 x2 x3 : Str} {sg : Scope} {g c1 c2 c3 : Addr} {cdg : Value} {n kj kk kt : Nat} {mt : Nat → Bool} {fs : SF} {b₀ : Stmt} {suite : List Stmt} {p0 p1 p2 p3 pt pt2 np1 np2 np3 pos pos' : Pos}
    (hNg : Ng.Nodup) (hi : Ng[1]? = some nm) (hlN : Ng.length = n) (hln : sg.names.lookup nm = some .local) (g1 : sg.names.lookup x1 = some .globalImplicit) (g2 : sg.names.lookup x2 = some .globalImplicit) (g3 : sg.names.lookup x3 = some .globalImplicit)
    (m1 : X.mg x1 = some (.ref c1)) (m2 : X.mg x2 = some (.ref c2)) (m3 : X.mg x3 = some (.ref c3)) (d1 : (x1 == ("__debug__" : Str)) = false) (d2 : (x2 == ("__debug__" : Str)) = false) (d3 : (x3 == ("__debug__" : Str)) = false)
    (hm : ∀ c, mt c = true → PySem.W.exmAny X.K (.ref (C c)) [.ref c1, .ref c2, .ref c3] = some true)
    (h0 : ∀ f : Addr, (L2.start Ng [V.ref f])[0]? = some (some (V.ref f)))
    (hsu : ∀ (s : Shared) (H : Hp) (a' : Addr) (pn : List (Addr × Obj)), PSs (suiteQ (cxOf C8.CX0 X.prog X.w X.K X.mg X.base Ng x sg g cdg X.A X.stack s H C8.E0).nox a' pn) (b₀ :: suite) (tS C W0 fs)) :
    LamX.GivesTo X Ng x sg g cdg [.Try [.Return (some (.Tuple [.Constant (.str "value") kj p0, .Call (.Name a p1) [] [] p2] kt pt2)) p3] [.ExceptHandler (some (.Tuple [.Name x1 np1, .Name x2 np2, .Name x3 np3] kk pt)) (some nm) (b₀ :: suite) pos'] [] [] pos] a q (TWhy C n mt fs) := by
  intro f c' s H Q tl act hc ⟨r, M, o, Ew, rel, htl, post⟩
  refine ⟨_, pss_one (ps_try3 (X := (cxOf C8.CX0 X.prog X.w X.K X.mg X.base Ng x sg g cdg X.A X.stack s H C8.E0).nox) (c1 := c1) (c2 := c2) (c3 := c3) (i := 1) (ts := tS C W0 fs)
      (tb := fun W D σ H => ∃ Ech : XK, (∀ cls d σ' H', Ech cls d H' → W cls d σ' H') ∧ σ[0]? = some (some (.ref f)) ∧ H c' = some (LamX.CodeO c' q) ∧ tl Ech H (fun v H1 => [V.str "value", v].length ≤ sizeLine ∧ ∀ p, H1 p = none → D.rt (.ref p) (upd H1 p (.tup [.str "value", v]))))
      rfl rfl rfl hNg hi hln g1 g2 g3 m1 m2 m3 d1 d2 d3 (fun W pn xe tk _ => ?_) (hsu s H)), ?_⟩
  · refine ⟨fun pins s' σ H' D I h' => ?_⟩
    obtain ⟨Ech, hW, h1, h2, h3⟩ := h'
    have hp := act W pn xe Ech p1 p2 tk hW
    have hq := pss_one (ps_ret (pos := p3) (pe_tup (pos := pt2) (x1 := kt) (pa_cons (pe_str (j := kj) (pos := p0) (x := "value")) (pa_cons hp pa_nil))))
    refine hq.run pins s' σ H' D I ⟨h1, h2, h3⟩
  · refine ⟨fun cls d H' => ∀ σ : L2.St, σ.length = n → wTry X.K c1 c2 c3 1 n (tS C W0 fs) { nx := fun _ H' => Q .non H', rt := Q } cls d σ H', fun cls d σ' H' h => ?_, h0 f, hc, htl _ _ ?_⟩
    · exact fun hl => h σ' (hl.trans hlN) (hl.trans hlN)
    · cases o with
      | no => exact post.elim
      | ok v M1 => exact fun r1 H1 p1 rel1 u vr => ⟨(show 2 ≤ sizeLine by decide), fun p hp => post (r1 ++ [p]) _ (p1.trans (List.prefix_append _ _)) (rel1.newTup hp (.cons rfl (.cons vr .nil))) _ rel1.place⟩
      | ex c fl M1 =>
        unfold sWhy at post
        simp only at post
        split at post
        · rename_i hc'
          refine fun r1 H1 d us p1 rel1 ed fr nd σ hl _ => ⟨C c, d, us, rfl, rfl, ed, hm c hc', fun a na da => ?_⟩
          have rel2 : Rel C (r1 ++ [a]) (M1 ++ [.exc c fl]) (upd H1 a (exq a (C c) d)) := by
            refine rel1.new na (upd_keep na) ⟨d, us, fr.mono (List.prefix_append _ _), upd_same, (upd_ne da).trans ed, fun z => ?_⟩
            rcases List.mem_append.mp z with z | z
            · exact nd z
            · exact da (List.mem_singleton.mp z)
          refine ⟨r1 ++ [a], (List.replicate n none).set 1 (some (.ref M1.length)), M1 ++ [.exc c fl], ER.set (show SR' (r1 ++ [a]) (some (.ref M1.length)) (some (.ref a)) from rel1.place) 1 (er_none hl), rel2, ?_⟩
          have pre : r <+: r1 ++ [a] := p1.trans (List.prefix_append _ _)
          cases hy : fs ((List.replicate n none).set 1 (some (.ref M1.length))) (M1 ++ [.exc c fl]) with
          | rt v M2 => rw [hy] at post; exact fun r2 H2 u p2 rel2 vr2 => post r2 H2 (pre.trans p2) rel2 u vr2
          | nx e2 M2 => rw [hy] at post; exact post.elim
          | bk e2 M2 => rw [hy] at post; exact post.elim
          | ct e2 M2 => rw [hy] at post; exact post.elim
          | no => rw [hy] at post; exact post.elim
          | ex _ _ _ _ => rw [hy] at post; exact post.elim
        · exact post.elim
def tabO (tn : Nat) (q : Str) : MO → Bool
  | .tab m q' => m == tn && q' == q
  | _ => true
/-- the call of such a def with a lambda; tn: the number of the caller's code table, fl: the lambda's body -/
def fLam (n : Nat) (mt : Nat → Bool) (fs : SF) (tn : Nat) (q : Str) (fl : EF) : EF := fun env M => if (M.contains (.tab tn q) && M.all (tabO tn q)) = true then sWhy n mt fs (fl env M) else .no
theorem se_lam {W : WX} {n tn : Nat} {mt : Nat → Bool} {fs : SF} {fl : EF} {x a : Str} {g c : Addr} {k : Nat} {pg : Arguments} {bg : List Stmt} {sg : Scope} {dV kV doc pm cdv ct oc : Value} {an od : Option Addr} {osl : Array (Option Value)} {Ng : List Str}
    {params : Arguments} {body : Expr} {scope : Scope} {p lpos pos : Pos} (hg : Gl X x) (hm : X.mg x = some (.ref g)) (hk : PySem.W.keepIn X.K (.ref g) = true)
    (lk : X.K.lookup g = some ⟨oc, od, .func (PySem.W.fnOf x x pg bg sg dV kV doc pm an cdv ct), osl⟩) (hcg : PySem.W.codeIn X.K cdv x = true) (hb : L2.Binds X.K (PySem.W.fnOf x x pg bg sg dV kV doc pm an cdv ct) [a] []) (Sg : FnScope Ng [a] sg) (hNg : Ng[0]? = some a) (hva : Vis sg a)
    (hG : LamX.GivesTo X Ng x sg g cdv bg a (X.env.qual ++ "<lambda>") (TWhy C n mt fs))
    (TB : LamX.TabB X.base X.mg c (C tn)) (hcode : X.env.code = .ref c) (hr : Room (k + 2) X.A) (L : LamX.LamS X.env.scope scope) (hdef : defaultsOf params X.env = ([], []))
    (hbind : ∀ (q : Str) (cl : List (Str × Addr)) (pm cv ctv : Value), bindArgs (PySem.W.kla_fn "<lambda>" q params body scope cl pm cv ctv) ⟨[], []⟩ = pure [])
    (hbody : ∀ (A : Around) (outer : List Env) (s : Shared) (H : Hp) (E : XK) (f c' : Addr), Room k (A.deeper (LamX.lamEnv X scope s.heap.objs.size f c')) → PE (LamX.lamCx X A outer s H E scope f c') body (tE C (wE E) fl))
    (hdb : (x == ("__debug__" : Str)) = false := by decide) (hd : (a == ("__debug__" : Str)) = false := by decide) (hcd : (a == ("__classdict__" : Str)) = false := by decide) :
    PE X (.Call (.Name x p) [.Lambda params body scope lpos] [] pos) (tE C W (fLam n mt fs tn (X.env.qual ++ "<lambda>") fl)) :=
  PE.imp (LamX.pe_lamcall (T := [(C tn, X.env.qual ++ "<lambda>")]) (t := fun E => tE C (wE E) fl) hg hm hk lk hcg hb Sg hNg hva hG TB hcode List.mem_cons_self (fun p hp _ => by cases List.mem_singleton.mp hp; rfl) hr L hdef hbind hbody hdb hd hcd) fun σ H Q ⟨r, env, M, er, rel, o⟩ => by
    unfold fLam at o
    split at o
    · rename_i hc
      obtain ⟨hc, ha⟩ := Bool.and_eq_true_iff.mp hc
      obtain ⟨i, ei⟩ := List.getElem?_of_mem (List.contains_iff_mem.mp hc)
      have hi : i < r.length := by rw [rel.len]; exact (List.getElem?_eq_some_iff.mp ei).1
      obtain ⟨e1, e2⟩ : OR' C r (.tab tn (X.env.qual ++ "<lambda>")) H r[i] := rel.at_ i r[i] _ (by simp [hi]) ei
      have T0 : LamX.Tabs [(C tn, X.env.qual ++ "<lambda>")] H := fun p hp => by cases List.mem_singleton.mp hp; rw [e1] at e2; exact e2
      refine ⟨T0, fun H1 eN T1 => ?_⟩
      have rel1 : Rel C r M H1 := rel.extN eN fun j m q a' ej em => by
        obtain ⟨z1, z2⟩ : OR' C r (.tab m q) H a' := rel.at_ j a' _ ej em
        have hq := List.all_eq_true.mp ha _ (List.mem_of_getElem? em)
        obtain ⟨q1, q2⟩ := Bool.and_eq_true_iff.mp hq
        have q1 := eq_of_beq q1
        have q2 := eq_of_beq q2
        subst q1 q2
        rw [z1]
        exact T1 _ List.mem_cons_self
      exact ⟨r, M, fl env M, _, rel1, fun E Q' o' => ⟨r, env, M, er, rel1, o'⟩, o⟩
    · exact o.elim
end
end Mini

set_option Elab.async false
set_option linter.all false
set_option maxRecDepth 100000
set_option maxHeartbeats 4000000
namespace Mini
open PySem PySem.Spec PyProof.Rows L2
/-! ### a making that ends in an exception -/
def gX (fb : SF) (env : Env') (M : Store) : Res MV := match fb env M with
  | .ex _ c fs M1 => .ex c fs M1
  | _ => .no
def spE (C : Nat → Addr) (N : List Str) (fb : SF) (n : Nat) : Sp := fun vs H Q E => vs.length = n ∧ ∃ r env M, ER r env (L2.start N vs) ∧ Rel C r M H ∧ Out C r E (gX fb env M) (Vk Q)
section
variable {P : Program} {w : World} {K : PySem.W.Frag} {mg : Str → Option Value} {base : Heap} {C : Nat → Addr} {x qual : Str} {params : Arguments} {body : List Stmt} {scope : Scope} {f : Addr} {fd : FuncData} {N ps : List Str} {k : Nat} {fb : SF} {dvs : List V} {kws : List (Str × V)}
theorem fn_ex (F : FunD K x qual params body scope dvs kws f fd) (S : FnScope N ps scope)
    (hbody : ∀ (cdv : Value) (A : Around) (outer : List Env) (s : Shared) (H : Hp) (E : XK), Room k (A.deeper (envOfC qual scope s.heap.objs.size f cdv)) → PSs (cxOf (L2.CX P w) P w K mg base N qual scope f cdv A outer s H E) body (tS C (wE E) fb)) :
    FnOk P w K mg base (L2.CX P w) (k + 1) f fd ps (spE C N fb ps.length) := by
  refine F.ok S (fun vs H Q E h => h.1) (fun cdv A outer s H vs Q E hr h => ⟨_, hbody cdv A outer s H E hr, ?_⟩)
  obtain ⟨_, r, env, M, er, rel, o⟩ := h
  refine ⟨r, env, M, er, rel, ?_⟩
  unfold gX at o
  cases hz : fb env M with
  | ex e c fs M1 => rw [hz] at o; exact fun r1 σ H1 d us p1 _ rel1 e1 f1 n1 => o r1 H1 d us p1 rel1 e1 f1 n1
  | _ => rw [hz] at o; exact o.elim
end
/-- C(e, ..); n: how many slots the body has -/
def fMkX (n : Nat) (fb : SF) (fa : AF) : EF := fun env M => (fa env M).bnd fun vs M1 => gX fb (none :: (vs.map some ++ List.replicate (n - 1 - vs.length) none)) M1
theorem gX_K {C : Nat → Addr} {r : Pl} {E : XK} {fb : SF} {env : Env'} {M : Store} {k k' : Pl → Hp → MV → Prop} (o : Out C r E (gX fb env M) k) : Out C r E (gX fb env M) k' := by
  unfold gX at o ⊢
  split
  · rename_i hz
    rw [hz] at o
    exact o
  · rename_i hz
    split at o
    · rename_i h2
      exact absurd h2 (hz _ _ _ _)
    · exact o.elim
theorem se_make {X : Cx} {C : Nat → Addr} {E : XK} {Ca f : Addr} {fd : FuncData} {N ps : List Str} {k : Nat} {x : Str} {fb : SF} {fa : AF} {e : Expr} {es : List Expr} {ds : List Value} {dvs : List V} {p pos : Pos} (tk : Takes X (wE E)) (M : Mk X.K Ca f) (F : FnOk X.prog X.w X.K X.mg X.base (L2.CX X.prog X.w) k f fd ps (spE C N fb ps.length)) (hr : Room (k + 1) X.A) (hg : Gl X x) (hm : X.mg x = some (.ref Ca))
    (hb : Binds X.K fd ps ds) (hd : Vals dvs ds) (hl : ∀ env M vs M', fa env M = .ok vs M' → vs.length + dvs.length + 1 = ps.length) (hn : ps.length ≤ N.length)
    (ha : PA X (e :: es) (tA C (wE E) fa)) (hdb : (x == ("__debug__" : Str)) = false := by decide) (he : starEach (e :: es) X.env = (false, eval e X.env) :: starEach es X.env := by rfl) (hpl : (backTo pos (starEach es X.env)).any (·.1) = false := by rfl) :
    PE X (.Call (.Name x p) (e :: es) [] pos) (tE C (wE E) (fMkX N.length fb fa)) :=
  PE.imp (pe_make M F hr hg hm hb hd (passes_call tk fun cls d σ' H' h => h) ha hdb he hpl) fun σ H Q ⟨r, env, M, er, rel, o⟩ => by
    refine ⟨r, env, M, er, rel, ?_⟩
    unfold fMkX at o
    cases hz : fa env M with
    | no => rw [hz] at o; exact o.elim
    | ex c fs M1 => rw [hz] at o; exact o
    | ok vs M1 =>
      rw [hz] at o
      refine fun r1 H1 p1 rel1 us vr1 x dx hx hdx hne => ?_
      have e1 := hl _ _ _ _ hz
      have e2 := vr1.len
      have lq : (V.ref x :: (us ++ dvs)).length = ps.length := by rw [List.length_cons, List.length_append]; omega
      refine ⟨lq, r1, none :: (vs.map some ++ List.replicate (N.length - 1 - vs.length) none), M1, ?_, ?_, gX_K (Out.mono p1 o)⟩
      · unfold L2.start
        rw [lq, List.map_cons, List.map_append, List.cons_append, List.append_assoc]
        exact .cons True.intro (ER.app (ER.smap vr1) (er_none (by rw [List.length_append, List.length_map, List.length_replicate]; omega)))
      · exact (rel1.same (upd_keep hdx)).same (upd_keep ((upd_ne hne.symm).trans hx))
section
variable {P : Program} {w : World} {K : PySem.W.Frag} {mg : Str → Option Value} {base : Heap} {C : Nat → Addr} {x : Str} {params : Arguments} {body : List Stmt} {scope : Scope} {fd : FuncData} {N ps : List Str} {k : Nat} {fb : SF} {p : Str × Option Str}
/-- a def whose code object is told -/
theorem fn_okC (F : FunD K x x params body scope [] [] (He.fAd K p) fd) (S : FnScope N ps scope)
    (hbody : ∀ (A : Around) (outer : List Env) (s : Shared) (H : Hp) (E : XK), Room k (A.deeper (envOfC x scope s.heap.objs.size (He.fAd K p) (.ref (He.codeOf K p)))) → PSs (cxOf (L2.CX P w) P w K mg base N x scope (He.fAd K p) (.ref (He.codeOf K p)) A outer s H E) body (tS C (wE E) fb)) :
    FnOk P w K mg base (L2.CX P w) (k + 1) (He.fAd K p) fd ps (spF C (gFn N.length fb) ps.length) := by
  obtain ⟨oc, od, dV, kV, doc, pm, an, cdv, ct, osl, rfl, lk, hcd, _, _⟩ := F.ex
  obtain ⟨c, rfl⟩ := He.codeIn_ref hcd
  have ec := He.codeOf_eq lk (c := c) rfl
  rw [ec] at hbody
  refine fn_of lk hcd S (fun vs H Q E h => h.1) fun A outer s H vs Q E hr h => ⟨_, hbody A outer s H E hr, ?_⟩
  obtain ⟨_, r, ws, M, vr, rel, o⟩ := h
  refine ⟨r, start' N.length ws, M, ER.start vr, rel, ?_⟩
  unfold gFn at o
  cases hz : fb (start' N.length ws) M with
  | no => rw [hz] at o; exact o.elim
  | bk e M1 => rw [hz] at o; exact o.elim
  | ct e M1 => rw [hz] at o; exact o.elim
  | rt v M1 => rw [hz] at o; exact fun r1 H1 u p1 rel1 vr1 => o r1 H1 p1 rel1 u vr1
  | nx e M1 => rw [hz] at o; exact fun r1 σ H1 p1 _ rel1 => o r1 H1 p1 rel1 .non rfl
  | ex e c fs M1 => rw [hz] at o; exact fun r1 σ H1 d us p1 _ rel1 e1 f1 n1 => o r1 H1 d us p1 rel1 e1 f1 n1
end
theorem tk_lam {X : Cx} {A : Around} {outer : List Env} {s : Shared} {H : Hp} {E : XK} {scope : Scope} {f c' : Addr} : Takes (LamX.lamCx X A outer s H E scope f c') (wE E) := takes_of rfl rfl rfl rfl
end Mini

set_option Elab.async false
set_option linter.all false
set_option maxRecDepth 100000
set_option maxHeartbeats 0
namespace K57
open PySem PySem.Spec PyProof.Rows L2 Mini
abbrev P : Program := PySem.Challenge.pw_folkfold_k57_families_of_errors
def top (i : Nat) : Stmt := P.main.body.getD i (.Pass ⟨0, 0, 0, 0⟩)
abbrev s_law_bag : Stmt := top 68
abbrev s_law_pull : Stmt := top 69
abbrev s_law_of : Stmt := top 70
abbrev s_law_same : Stmt := top 71
abbrev s_law_field : Stmt := top 72
abbrev s_law_why : Stmt := top 73
abbrev s_law_tags : Stmt := top 74
abbrev s_law_kinds : Stmt := top 75
abbrev s_need_folks : Stmt := top 37
abbrev s_law : Stmt := top 76
def D : ClsD := ⟨["FoldError", "Missing", "InvalidFolks", "InvalidForm", "InvalidLine", "InvalidCost", "TooMany", "InvalidText", "InvalidSize", "NoPlan", "InvalidName", "DuplicateName", "CapacityExceeded", "InvalidLimit", "InvalidCommand", "InvalidPage", "UnknownName", "NothingLeft"], [[true, false, false, false, false, false, false, false, false, false, false, false, false, false, false, false, false, false], [false, true, false, false, false, false, false, false, false, false, false, false, false, false, false, false, false, false], [true, false, true, false, false, false, false, false, false, false, false, false, false, false, false, false, false, false], [true, false, false, true, false, false, false, false, false, false, false, false, false, false, false, false, false, false], [true, false, false, false, true, false, false, false, false, false, false, false, false, false, false, false, false, false], [true, false, false, false, false, true, false, false, false, false, false, false, false, false, false, false, false, false], [true, false, false, false, false, false, true, false, false, false, false, false, false, false, false, false, false, false], [true, false, false, false, false, false, false, true, false, false, false, false, false, false, false, false, false, false], [true, false, false, false, false, false, false, false, true, false, false, false, false, false, false, false, false, false], [true, false, false, false, false, false, false, false, false, true, false, false, false, false, false, false, false, false], [true, false, false, false, false, false, false, false, false, false, true, false, false, false, false, false, false, false], [true, false, false, false, false, false, false, false, false, false, false, true, false, false, false, false, false, false], [true, false, false, false, false, false, false, false, false, false, false, false, true, false, false, false, false, false], [true, false, false, false, false, false, false, false, false, false, false, false, false, true, false, false, false, false], [true, false, false, false, false, false, false, false, false, false, false, false, false, false, true, false, false, false], [true, false, false, false, false, false, false, false, false, false, false, false, false, false, false, true, false, false], [false, true, false, false, false, false, false, false, false, false, false, false, false, false, false, false, true, false], [false, false, false, false, false, false, false, false, false, false, false, false, false, false, false, false, false, true]], [("ValueError", [true, false, true, true, true, true, true, true, true, true, true, true, true, true, true, true, false, false]), ("LookupError", [false, true, false, false, false, false, false, false, false, false, false, false, false, false, false, false, true, true]), ("IndexError", [false, false, false, false, false, false, false, false, false, false, false, false, false, false, false, false, false, true])], [["given", "index", "limit", "line", "most", "name", "position", "row", "tag", "word"], ["given", "index", "limit", "line", "most", "name", "position", "row", "tag", "word"], ["given", "index", "limit", "line", "most", "name", "position", "row", "tag", "word"], ["given", "index", "limit", "line", "most", "name", "position", "row", "tag", "word"], ["given", "index", "limit", "line", "most", "name", "position", "row", "tag", "word"], ["given", "index", "limit", "line", "most", "name", "position", "row", "tag", "word"], ["given", "index", "limit", "line", "most", "name", "position", "row", "tag", "word"], ["given", "index", "limit", "line", "most", "name", "position", "row", "tag", "word"], ["given", "index", "limit", "line", "most", "name", "position", "row", "tag", "word"], ["given", "index", "limit", "line", "most", "name", "position", "row", "tag", "word"], ["given", "index", "limit", "line", "most", "name", "position", "row", "tag", "word"], ["given", "index", "limit", "line", "most", "name", "position", "row", "tag", "word"], ["given", "index", "limit", "line", "most", "name", "position", "row", "tag", "word"], ["given", "index", "limit", "line", "most", "name", "position", "row", "tag", "word"], ["given", "index", "limit", "line", "most", "name", "position", "row", "tag", "word"], ["given", "index", "limit", "line", "most", "name", "position", "row", "tag", "word"], ["given", "index", "limit", "line", "most", "name", "position", "row", "tag", "word"], ["given", "index", "limit", "line", "most", "name", "position", "row", "tag", "word"]]⟩
def x_InvalidFolks : XcD := ⟨2, 0, "InvalidFolks", some "index"⟩
def x_InvalidForm : XcD := ⟨3, 0, "InvalidForm", some "index"⟩
def x_InvalidLine : XcD := ⟨4, 0, "InvalidLine", some "index"⟩
def x_InvalidCost : XcD := ⟨5, 0, "InvalidCost", some "index"⟩
def x_TooMany : XcD := ⟨6, 0, "TooMany", some "most"⟩
def x_InvalidText : XcD := ⟨7, 0, "InvalidText", some "row"⟩
def x_InvalidSize : XcD := ⟨8, 0, "InvalidSize", some "given"⟩
def x_NoPlan : XcD := ⟨9, 0, "NoPlan", some "word"⟩
def x_InvalidName : XcD := ⟨10, 0, "InvalidName", some "name"⟩
def x_DuplicateName : XcD := ⟨11, 0, "DuplicateName", some "name"⟩
def x_CapacityExceeded : XcD := ⟨12, 0, "CapacityExceeded", some "limit"⟩
def x_InvalidLimit : XcD := ⟨13, 0, "InvalidLimit", some "given"⟩
def x_InvalidCommand : XcD := ⟨14, 0, "InvalidCommand", some "position"⟩
def x_InvalidPage : XcD := ⟨15, 0, "InvalidPage", some "line"⟩
def x_UnknownName : XcD := ⟨16, 1, "UnknownName", some "name"⟩
def x_NothingLeft : XcD := ⟨17, 2, "NothingLeft", none⟩
def xs : List XcD := [x_InvalidFolks, x_InvalidForm, x_InvalidLine, x_InvalidCost, x_TooMany, x_InvalidText, x_InvalidSize, x_NoPlan, x_InvalidName, x_DuplicateName, x_CapacityExceeded, x_InvalidLimit, x_InvalidCommand, x_InvalidPage, x_UnknownName, x_NothingLeft]
abbrev s_Scheme : Stmt := top 66
def initOf : Stmt → Stmt
  | .ClassDef _ _ _ b .. => (b.find? fun s => match s with | .FunctionDef n .. => n == "__init__" | _ => false).getD (.Pass ⟨0, 0, 0, 0⟩)
  | s => s
abbrev s_init : Stmt := initOf s_Scheme
def dflAt (i : Nat) (K : PySem.W.Frag) : Addr := match K.lookup (He.fAd K ("Scheme", some "__init__")) with
  | some ⟨_, _, .func fd, _⟩ => (match fd.defaults with
    | .ref t => (match K.lookup t with
      | some ⟨_, _, .seq its _, _⟩ => (match its.getD i .none with | .ref a => a | _ => 0)
      | _ => 0)
    | _ => 0)
  | _ => 0
abbrev d_init : He.DefD := ⟨("Scheme", some "__init__"), "__init__", "Scheme.__init__", defArgs s_init, defBody s_init, defScope s_init, [.adr (dflAt 0), .adr (dflAt 1)], []⟩
def fn : List He.DefD := [dOf "_law_bag" s_law_bag, dOf "_law_pull" s_law_pull, dOf "_law_of" s_law_of, dOf "_law_same" s_law_same, dOf "_law_field" s_law_field, dOf "_law_why" s_law_why, dOf "_law_tags" s_law_tags, dOf "_law_kinds" s_law_kinds, dOf "need_folks" s_need_folks, dOf "law" s_law, d_init]
def tf : List He.Defn := [("law", none)]
def mtL : List Nat := [0, 1, 2, 3, 4, 5, 6, 7, 8, 9, 10, 11, 12, 13, 14, 15, 16, 17]
def mt (c : Nat) : Bool := mtL.contains c
def mtB (K : PySem.W.Frag) : Bool := mtL.all fun c => decide (PySem.W.exmAny K (.ref (D.C K c)) [.ref (He.ga K "FoldError"), .ref (He.ga K "Missing"), .ref (He.ga K "NothingLeft")] = some true)
def glB0 : List Str := ["_law_bag", "_law_pull", "_law_of", "_law_same", "_law_field", "_law_why", "_law_tags", "_law_kinds", "need_folks", "law", "FoldError", "Missing", "InvalidFolks", "InvalidForm", "InvalidLine"]
def glB1 : List Str := ["InvalidCost", "TooMany", "InvalidText", "InvalidSize", "NoPlan", "InvalidName", "DuplicateName", "CapacityExceeded", "InvalidLimit", "InvalidCommand", "InvalidPage", "UnknownName", "NothingLeft", "Scheme"]
def glB : List Str := glB0 ++ glB1
def frB : List Str := ["isinstance", "len", "int", "list", "range", "zip", "all", "super", "str", "tuple", "bool", "ValueError", "LookupError", "IndexError"]
def fa : List He.Fa := glB.map He.Fa.glo ++ (frB.map He.Fa.free ++ [He.Fa.mkr "Scheme"])
def ex (K : PySem.W.Frag) : Bool := D.chk K && (xs.all (fun x => x.chk P K D) && mtB K)
abbrev R : PySem.W.OpenRow := PySem.W.OpenLaw.row PySem.Challenge.rw_folkfold_k57_families_of_errors
abbrev hk : PySem.W.Hook := hookM 5 fa fn tf ex
def ob (s : PySem.W.SharedT) : AlM := obsM 5 fa fn tf ex (HandSHeadRun.getT s)
theorem ob_eq (s : PySem.W.SharedT) : ob s = hk.obs s.abs := obsM_eq (HandSHeadRun.getT_eq s)
def loose0 : List Str := ["_wall", "FoldError", "Missing", "InvalidFolks", "InvalidForm", "InvalidLine", "InvalidCost", "TooMany", "InvalidText", "InvalidSize", "NoPlan", "InvalidName", "DuplicateName", "CapacityExceeded", "InvalidLimit"]
def loose1 : List Str := ["InvalidCommand", "InvalidPage", "UnknownName", "NothingLeft", "is_whole", "trimmed", "product", "LETTERS", "MOST_FOLKS", "MOST_DEEP", "MOST_TOLD_folks", "MOST_MEMBERS", "MOST_NAME", "WORDS", "is_name"]
def loose2 : List Str := ["is_open_size", "table_of", "chain_of", "is_folk", "need_folks", "base_size", "many_left", "fresh_tail", "ways_on", "more_ways", "row_ways", "together", "shape_of", "many_rows", "MOST_PARTS"]
def loose3 : List Str := ["MOST_FORMS", "MOST_PLACES", "MOST_LINES", "MOST_TERMS", "MOST_FACTOR", "MOST_TOLD_schemes", "RELATIONS", "is_within", "is_form", "is_members", "is_condition", "are_conditions", "is_term", "are_terms", "is_line"]
def loose4 : List Str := ["keeps", "named_ways", "Scheme", "_law_bag", "_law_pull", "_law_of", "_law_same", "_law_field", "_law_why", "_law_tags", "_law_kinds"]
def loose : List Str := loose0 ++ loose1 ++ loose2 ++ loose3 ++ loose4
set_option maxHeartbeats 0 in
theorem run (w : World) : HandSHeadRun.RunEq R (PySem.W.view R.prog [76]) hk ob 7000 loose w := by
  intro os
  kernel_rfl
end K57

set_option Elab.async false
set_option linter.all false
set_option maxRecDepth 100000
set_option maxHeartbeats 0
namespace K57
open PySem PySem.Spec PyProof.Rows L2 Mini RZ
section
variable {w : World} {K : PySem.W.Frag} {mg : Str → Option Value} {base : Heap}
structure Hyp (w : World) (K : PySem.W.Frag) (mg : Str → Option Value) (base : Heap) : Prop where
  gl : ∀ x : Str, glB.contains x = true → mg x = some (.ref (He.ga K x))
  fr : ∀ x : Str, frB.contains x = true → mg x = none
  hT : ClsOk K (D.C K) D.T
  mkx : ∀ x ∈ xs, (∀ y, x.fld = some y → BindOk y) → XMk P w K mg base 1 (D.C K x.c) (gOf x.tag x.fld) (nOf x.fld) x.fld
abbrev N_law_field : List Str := ["_law_e"]
def fb_law_field : SF := fSeq (fIfS (fBin (gIn false) (fAt D.T "tag" (fVar 0)) (fLst (fCons (fK (.str "InvalidFolks")) (fCons (fK (.str "InvalidForm")) (fCons (fK (.str "InvalidLine")) (fCons (fK (.str "InvalidCost")) (fNil))))))) (fSeq (fRet (fAt D.T "index" (fVar 0))) (fSkip)) (fSkip)) (fSeq (fIfS (fBin (gIn false) (fAt D.T "tag" (fVar 0)) (fLst (fCons (fK (.str "InvalidName")) (fCons (fK (.str "DuplicateName")) (fCons (fK (.str "UnknownName")) (fNil)))))) (fSeq (fRet (fAt D.T "name" (fVar 0))) (fSkip)) (fSkip)) (fSeq (fIfS (fBin (gIn false) (fAt D.T "tag" (fVar 0)) (fLst (fCons (fK (.str "InvalidSize")) (fCons (fK (.str "InvalidLimit")) (fNil))))) (fSeq (fRet (fAt D.T "given" (fVar 0))) (fSkip)) (fSkip)) (fSeq (fIfS (fBin gEqS (fAt D.T "tag" (fVar 0)) (fK (.str "InvalidText"))) (fSeq (fRet (fAt D.T "row" (fVar 0))) (fSkip)) (fSkip)) (fSeq (fIfS (fBin gEqS (fAt D.T "tag" (fVar 0)) (fK (.str "TooMany"))) (fSeq (fRet (fAt D.T "most" (fVar 0))) (fSkip)) (fSkip)) (fSeq (fIfS (fBin gEqS (fAt D.T "tag" (fVar 0)) (fK (.str "NoPlan"))) (fSeq (fRet (fAt D.T "word" (fVar 0))) (fSkip)) (fSkip)) (fSeq (fIfS (fBin gEqS (fAt D.T "tag" (fVar 0)) (fK (.str "CapacityExceeded"))) (fSeq (fRet (fAt D.T "limit" (fVar 0))) (fSkip)) (fSkip)) (fSeq (fIfS (fBin gEqS (fAt D.T "tag" (fVar 0)) (fK (.str "InvalidCommand"))) (fSeq (fRet (fAt D.T "position" (fVar 0))) (fSkip)) (fSkip)) (fSeq (fRet (fIf (fBin gEqS (fAt D.T "tag" (fVar 0)) (fK (.str "InvalidPage"))) (fAt D.T "line" (fVar 0)) (fK .non))) (fSkip)))))))))
def g_law_field : GA := gQ (gFn 1 fb_law_field)
theorem nd_law_field : N_law_field.Nodup := by decide +kernel
theorem ok_law_field (h : Hyp w K mg base) (F : ∃ fd, FunD K "_law_field" "_law_field" (defArgs s_law_field) (defBody s_law_field) (defScope s_law_field) [] [] (He.fAd K ("_law_field", none)) fd) : FnS P w K mg base (D.C K) 1 "_law_field" g_law_field 1 := by
  obtain ⟨fd, F⟩ := F
  obtain ⟨gl, fr, hT, mk⟩ := h
  have nd := nd_law_field
  exact fns_def (N := N_law_field) (ps := ["_law_e"]) (k := 0) (fb := fb_law_field) F (gl "_law_field" (by kernel_rfl)) (C8.fnScope_by (by kernel_rfl)) (F.bindsN fun _ _ _ _ _ _ us hl => match us, hl with | [_], _ => rfl) fun cdv A outer s H E hr => by
    exact (ss_cons (ss_if (st_cmp op_in_seq k_in (se_at hT (se_var (i := 0) rfl (vis_by (by kernel_rfl)) (by kernel_rfl) (by kernel_rfl))) (se_lst (sa_cons (se_str) (sa_cons (se_str) (sa_cons (se_str) (sa_cons (se_str) (sa_nil)))))) (by with_unfolding_all rfl)) (ss_cons (ss_ret (se_at hT (se_var (i := 0) rfl (vis_by (by kernel_rfl)) (by kernel_rfl) (by kernel_rfl)))) (ss_nil)) (ss_nil)) (ss_cons (ss_if (st_cmp op_in_seq k_in (se_at hT (se_var (i := 0) rfl (vis_by (by kernel_rfl)) (by kernel_rfl) (by kernel_rfl))) (se_lst (sa_cons (se_str) (sa_cons (se_str) (sa_cons (se_str) (sa_nil))))) (by with_unfolding_all rfl)) (ss_cons (ss_ret (se_at hT (se_var (i := 0) rfl (vis_by (by kernel_rfl)) (by kernel_rfl) (by kernel_rfl)))) (ss_nil)) (ss_nil)) (ss_cons (ss_if (st_cmp op_in_seq k_in (se_at hT (se_var (i := 0) rfl (vis_by (by kernel_rfl)) (by kernel_rfl) (by kernel_rfl))) (se_lst (sa_cons (se_str) (sa_cons (se_str) (sa_nil)))) (by with_unfolding_all rfl)) (ss_cons (ss_ret (se_at hT (se_var (i := 0) rfl (vis_by (by kernel_rfl)) (by kernel_rfl) (by kernel_rfl)))) (ss_nil)) (ss_nil)) (ss_cons (ss_if (st_cmp op_eq k_eqS (se_at hT (se_var (i := 0) rfl (vis_by (by kernel_rfl)) (by kernel_rfl) (by kernel_rfl))) (se_str) (nomark _)) (ss_cons (ss_ret (se_at hT (se_var (i := 0) rfl (vis_by (by kernel_rfl)) (by kernel_rfl) (by kernel_rfl)))) (ss_nil)) (ss_nil)) (ss_cons (ss_if (st_cmp op_eq k_eqS (se_at hT (se_var (i := 0) rfl (vis_by (by kernel_rfl)) (by kernel_rfl) (by kernel_rfl))) (se_str) (nomark _)) (ss_cons (ss_ret (se_at hT (se_var (i := 0) rfl (vis_by (by kernel_rfl)) (by kernel_rfl) (by kernel_rfl)))) (ss_nil)) (ss_nil)) (ss_cons (ss_if (st_cmp op_eq k_eqS (se_at hT (se_var (i := 0) rfl (vis_by (by kernel_rfl)) (by kernel_rfl) (by kernel_rfl))) (se_str) (nomark _)) (ss_cons (ss_ret (se_at hT (se_var (i := 0) rfl (vis_by (by kernel_rfl)) (by kernel_rfl) (by kernel_rfl)))) (ss_nil)) (ss_nil)) (ss_cons (ss_if (st_cmp op_eq k_eqS (se_at hT (se_var (i := 0) rfl (vis_by (by kernel_rfl)) (by kernel_rfl) (by kernel_rfl))) (se_str) (nomark _)) (ss_cons (ss_ret (se_at hT (se_var (i := 0) rfl (vis_by (by kernel_rfl)) (by kernel_rfl) (by kernel_rfl)))) (ss_nil)) (ss_nil)) (ss_cons (ss_if (st_cmp op_eq k_eqS (se_at hT (se_var (i := 0) rfl (vis_by (by kernel_rfl)) (by kernel_rfl) (by kernel_rfl))) (se_str) (nomark _)) (ss_cons (ss_ret (se_at hT (se_var (i := 0) rfl (vis_by (by kernel_rfl)) (by kernel_rfl) (by kernel_rfl)))) (ss_nil)) (ss_nil)) (ss_cons (ss_ret (se_if (st_cmp op_eq k_eqS (se_at hT (se_var (i := 0) rfl (vis_by (by kernel_rfl)) (by kernel_rfl) (by kernel_rfl))) (se_str) (nomark _)) (se_at hT (se_var (i := 0) rfl (vis_by (by kernel_rfl)) (by kernel_rfl) (by kernel_rfl))) (se_non))) (ss_nil))))))))))
def suiteOf (st : Stmt) : List Stmt := match defBody st with
  | [.Try _ [.ExceptHandler _ _ b _] _ _ _] => b
  | _ => []
abbrev N_law_why : List Str := ["_law_ask_z", "_law_e"]
def fs_why : SF := fSeq (fRet (fTup (fCons (fAt D.T "tag" (fVar 1)) (fCons (fAp g_law_field (fCons (fVar 1) (fNil))) (fNil))))) (fSkip)
theorem su_why (h : Hyp w K mg base) (f_law_field : FnS P w K mg base (D.C K) 1 "_law_field" g_law_field 1) {gw : Addr} {cdg : Value} {A : Around} {stk : List Env} {s : Shared} {H : Hp} (hr : L2H.RoomH 2 A) (aq : Addr) (pn : List (Addr × Obj)) : PSs (suiteQ (cxOf C8.CX0 P w K mg base N_law_why "_law_why" (defScope s_law_why) gw cdg A stk s H C8.E0).nox aq pn) (suiteOf s_law_why) (tS (D.C K) W0 fs_why) := by
  obtain ⟨gl, fr, hT, mk⟩ := h
  have hr : L2H.RoomH 1 (suiteQ (cxOf C8.CX0 P w K mg base N_law_why "_law_why" (defScope s_law_why) gw cdg A stk s H C8.E0).nox aq pn).A := ⟨(hr.deeper (envOfC "_law_why" (defScope s_law_why) s.heap.objs.size gw cdg)).dp, (hr.deeper (envOfC "_law_why" (defScope s_law_why) s.heap.objs.size gw cdg)).un⟩
  exact (ss_cons (ss_ret (se_tup (sa_cons (se_at hT (se_var (i := 1) rfl (vis_by (by kernel_rfl)) (by kernel_rfl) (by kernel_rfl))) (sa_cons (se_callQ f_law_field hr takes0 (gl_by (by kernel_rfl)) (sa_cons (se_var (i := 1) rfl (vis_by (by kernel_rfl)) (by kernel_rfl) (by kernel_rfl)) (sa_nil)) (len_cons (len_nil)) (by kernel_rfl)) (sa_nil))))) (ss_nil))
abbrev N_need_folks : List Str := ["folks"]
def fb_need_folks : SF := fSeq (fIfS (fOr (fNot (fAp (gIsi D.T) (fCons (fVar 0) (fCons (fTup (fCons (fK (.ty "list")) (fCons (fK (.ty "tuple")) (fNil)))) (fNil))))) (fStop)) (fSeq (fRaise 2 (mf1 "index" "InvalidFolks") 1 (fCons (fK .non) (fNil))) (fSkip)) (fSkip)) (fStopS)
def g_need_folks : GA := gFn 1 fb_need_folks
theorem nd_need_folks : N_need_folks.Nodup := by decide +kernel
theorem ok_need_folks (h : Hyp w K mg base)  (F : ∃ fd, FunD K "need_folks" "need_folks" (defArgs s_need_folks) (defBody s_need_folks) (defScope s_need_folks) [] [] (He.fAd K ("need_folks", none)) fd) : Fn P w K mg base (D.C K) 3 "need_folks" g_need_folks 1 := by
  obtain ⟨fd, F⟩ := F
  obtain ⟨gl, fr, hT, mk⟩ := h
  have nd := nd_need_folks
  exact fn_def (N := N_need_folks) (ps := ["folks"]) (k := 2) (fb := fb_need_folks) F (gl "need_folks" (by kernel_rfl)) (C8.fnScope_by (by kernel_rfl)) (F.bindsN fun _ _ _ _ _ _ us hl => match us, hl with | [_], _ => rfl) fun cdv A outer s H E hr => by
    have tk : Takes (cxOf (L2.CX P w) P w K mg base N_need_folks "need_folks" (defScope s_need_folks) (He.fAd K ("need_folks", none)) cdv A outer s H E) (wE E) := tk_fn

    exact (ss_cons (ss_if (st_w (sw_or (st_not (st_e (se_callB (id := "isinstance") call_isA (k_isi hT) (gl_by (by kernel_rfl)) (fr "isinstance" (by kernel_rfl)) (by kernel_rfl) (sa_cons (se_var (i := 0) rfl (vis_by (by kernel_rfl)) (by kernel_rfl) (by kernel_rfl)) (sa_cons (se_tup (sa_cons (se_ty (T := "list") (gl_by (by kernel_rfl)) (fr "list" (by kernel_rfl)) (by kernel_rfl) (by decide +kernel) (by kernel_rfl)) (sa_cons (se_ty (T := "tuple") (gl_by (by kernel_rfl)) (fr "tuple" (by kernel_rfl)) (by kernel_rfl) (by decide +kernel) (by kernel_rfl)) (sa_nil)))) (sa_nil))) (by decide +kernel) (by kernel_rfl)))) (sw_one (st_stop) (.inr rfl)))) (ss_cons (ss_raise (c := 2) (n := 1) rfl tk (mk x_InvalidFolks (by simp [xs]) (by intro y hy; cases hy <;> exact fun _ _ _ _ _ _ _ _ _ _ _ _ _ _ _ _ => ⟨rfl, rfl⟩)) fok1 hr (by decide) (gl_by (by kernel_rfl)) (gl "InvalidFolks" (by kernel_rfl)) (sa_cons (se_non) (sa_nil)) (by kernel_rfl)) (ss_nil)) (ss_nil)) (ss_stop))
abbrev N_init : List Str := ["self", "folks", "forms", "lines", "cost"]
def fb_init : SF := fSeq (fEx (fAp g_need_folks (fCons (fVar 1) (fNil)))) (fStopS)
theorem ok_init (h : Hyp w K mg base) (f_need_folks : Fn P w K mg base (D.C K) 3 "need_folks" g_need_folks 1) {fd : FuncData} {dvs : List V} (F : FunD K "__init__" "Scheme.__init__" (defArgs s_init) (defBody s_init) (defScope s_init) dvs [] (He.fAd K ("Scheme", some "__init__")) fd) : FnOk P w K mg base (L2.CX P w) 4 (He.fAd K ("Scheme", some "__init__")) fd N_init (spE (D.C K) N_init fb_init 5) := by
  obtain ⟨gl, fr, hT, mk⟩ := h
  exact fn_ex (N := N_init) (ps := N_init) (k := 3) (fb := fb_init) F (C8.fnScope_by (by kernel_rfl)) fun cdv A outer s H E hr => by
    have tk : Takes (cxOf (L2.CX P w) P w K mg base N_init "Scheme.__init__" (defScope s_init) (He.fAd K ("Scheme", some "__init__")) cdv A outer s H E) (wE E) := tk_fn
    exact (ss_cons (ss_ex (se_call f_need_folks hr (by omega) tk (gl_by (by kernel_rfl)) (sa_cons (se_var (i := 1) rfl (vis_by (by kernel_rfl)) (by kernel_rfl) (by kernel_rfl)) (sa_nil)) (len_cons (len_nil)) (by kernel_rfl))) (ss_stop))
def whyE : Expr := match (defBody s_law).getLast? with
  | some (.Return (some (.Call _ (a :: _) _ _)) _) => a
  | _ => .Constant .none 0 ⟨0, 0, 0, 0⟩
def fl : EF := fMkX 5 fb_init (fCons (fK .non) (fCons (fLst fNil) fNil))
def fWhy : EF := fLam 2 mt fs_why 1000 "law.<locals>.<lambda>" fl
abbrev N_law : List Str := ["_law_script", "_law_bag_here", "_law_one_z", "_law_some", "_law_told_z", "_law_k", "_law_error", "_law_bases", "_law_due"]
theorem why_pe (h : Hyp w K mg base) (h_ex : mtB K = true) (f_law_field : FnS P w K mg base (D.C K) 1 "_law_field" g_law_field 1) (f_need_folks : Fn P w K mg base (D.C K) 3 "need_folks" g_need_folks 1)
    (Fw : ∃ fd, FunD K "_law_why" "_law_why" (defArgs s_law_why) (defBody s_law_why) (defScope s_law_why) [] [] (He.fAd K ("_law_why", none)) fd)
    (Fi : ∃ fd, FunD K "__init__" "Scheme.__init__" (defArgs s_init) (defBody s_init) (defScope s_init) [.ref (dflAt 0 K), .ref (dflAt 1 K)] [] (He.fAd K ("Scheme", some "__init__")) fd)
    (MK : Mk K (He.ga K "Scheme") (He.fAd K ("Scheme", some "__init__"))) (TB : LamX.TabB base mg (He.codeOf K ("law", none)) (D.C K 1000)) {A : Around} {outer : List Env} {s : Shared} {H : Hp} {E : XK}
    (hr : Room 7 (A.deeper (envOfC "law" (defScope s_law) s.heap.objs.size (He.fAd K ("law", none)) (.ref (He.codeOf K ("law", none)))))) :
    PE (cxOf (L2.CX P w) P w K mg base N_law "law" (defScope s_law) (He.fAd K ("law", none)) (.ref (He.codeOf K ("law", none))) A outer s H E) whyE (tE (D.C K) (wE E) fWhy) := by
  have hh := h
  obtain ⟨gl, fr, hT, mk⟩ := h
  obtain ⟨fdw, Fw⟩ := Fw
  obtain ⟨fdi, Fi⟩ := Fi
  have bw := Fw.bindsN (ps := ["_law_ask_z"]) fun _ _ _ _ _ _ us hl => match us, hl with | [_], _ => rfl
  obtain ⟨ds, hd, hb⟩ := Fi.binds1 (ps := N_init) 3 0 (by simp) rfl fun _ _ _ _ _ _ _ us its h1 h2 => match us, its, h1, h2 with | [_, _, _], [_, _], _, _ => ⟨_, rfl, rfl⟩
  obtain ⟨oc, od, dV, kV, doc, pm, an, cdv, ct, osl, rfl, lk, hcd, _, _⟩ := Fw.ex
  refine se_lam (X := cxOf (L2.CX P w) P w K mg base N_law "law" (defScope s_law) (He.fAd K ("law", none)) (.ref (He.codeOf K ("law", none))) A outer s H E) (k := 5) (n := 2) (tn := 1000) (mt := mt) (fs := fs_why) (fl := fl) (Ng := N_law_why) (gl_by (by kernel_rfl)) (gl "_law_why" (by kernel_rfl)) Fw.kp lk hcd bw (C8.fnScope_by (by kernel_rfl)) rfl (vis_by (by kernel_rfl))
    ?G TB rfl hr (LamX.lamS_by (by kernel_rfl)) rfl (fun _ _ _ _ _ => by kernel_rfl) ?B (by kernel_rfl) (by kernel_rfl) (by kernel_rfl)
  case G =>
    exact why_gives (by decide +kernel) rfl rfl (by kernel_rfl) (by kernel_rfl) (by kernel_rfl) (by kernel_rfl) (gl "FoldError" (by kernel_rfl)) (gl "Missing" (by kernel_rfl)) (gl "NothingLeft" (by kernel_rfl)) (by kernel_rfl) (by kernel_rfl) (by kernel_rfl)
      (fun c hc => of_decide_eq_true (List.all_eq_true.mp h_ex c (List.contains_iff_mem.mp hc))) (fun f => rfl) fun s' H' a' pn => su_why hh f_law_field (L2H.roomH_of (hr.mono (by decide))) a' pn
  case B =>
    intro A' outer' s' H' E' f c' hr'
    exact se_make (k := 4) (N := N_init) tk_lam MK (ok_init hh f_need_folks Fi) hr' (gl_by (by kernel_rfl)) (gl "Scheme" (by kernel_rfl)) hb hd (fun _ _ _ _ z => by rw [len_cons (len_cons len_nil) _ _ _ _ z] <;> rfl) (by decide) (sa_cons se_non (sa_cons (se_lst sa_nil) sa_nil))
end
end K57

set_option Elab.async false
set_option linter.all false
set_option maxRecDepth 100000
set_option maxHeartbeats 0
namespace K57
open PySem PySem.Spec PyProof.Rows L2 Mini RZ
section
variable {w : World} {K : PySem.W.Frag} {mg : Str → Option Value} {base : Heap}
abbrev N_law_bag : List Str := ["_law_script"]
def fb_law_bag : SF := fSeq (fRet (fLst (fCons (fAp gList (fCons (fSl (fVar 0) (fNoP) (fPart (fK (.int 63)))) (fNil))) (fCons (fK (.int 0)) (fCons (fK (.int 0)) (fCons (fK (.int 5622)) (fNil))))))) (fSkip)
def g_law_bag : GA := gFn 1 fb_law_bag
theorem nd_law_bag : N_law_bag.Nodup := by decide +kernel
theorem ok_law_bag (h : Hyp w K mg base)  (F : ∃ fd, FunD K "_law_bag" "_law_bag" (defArgs s_law_bag) (defBody s_law_bag) (defScope s_law_bag) [] [] (He.fAd K ("_law_bag", none)) fd) : Fn P w K mg base (D.C K) 1 "_law_bag" g_law_bag 1 := by
  obtain ⟨fd, F⟩ := F
  obtain ⟨gl, fr, hT, mk⟩ := h
  have nd := nd_law_bag
  exact fn_def (N := N_law_bag) (ps := ["_law_script"]) (k := 0) (fb := fb_law_bag) F (gl "_law_bag" (by kernel_rfl)) (C8.fnScope_by (by kernel_rfl)) (F.bindsN fun _ _ _ _ _ _ us hl => match us, hl with | [_], _ => rfl) fun cdv A outer s H E hr => by
    have tk : Takes (cxOf (L2.CX P w) P w K mg base N_law_bag "_law_bag" (defScope s_law_bag) (He.fAd K ("_law_bag", none)) cdv A outer s H E) (wE E) := tk_fn

    exact (ss_cons (ss_ret (se_lst (sa_cons (se_callTy (T := "list") call_list_of k_list (gl_by (by kernel_rfl)) (fr "list" (by kernel_rfl)) (by kernel_rfl) (sa_cons (se_sl (se_var (i := 0) rfl (vis_by (by kernel_rfl)) (by kernel_rfl) (by kernel_rfl)) (so_none) (so_some (se_int))) (sa_nil)) (by decide +kernel) (by kernel_rfl)) (sa_cons (se_int) (sa_cons (se_int) (sa_cons (se_int) (sa_nil))))))) (ss_nil))
abbrev N_law_pull : List Str := ["_law_bag_here", "_law_many_z", "_law_seed", "_law_cell", "_law_got"]
def fb_law_pull : SF := fSeq (fIfS (fAnd (fBin gEq (fBin gIx (fVar 0) (fK (.int 2))) (fK (.int 0))) (fBin gLtI (fBin gIx (fVar 0) (fK (.int 1))) (fAp gLen (fCons (fBin gIx (fVar 0) (fK (.int 0))) (fNil))))) (fSeq (fSet 3 (fBin gIx (fBin gIx (fVar 0) (fK (.int 0))) (fBin gIx (fVar 0) (fK (.int 1))))) (fSeq (fSetI (fVar 0) (fK (.int 1)) (fBin gAdd (fBin gIx (fVar 0) (fK (.int 1))) (fK (.int 1)))) (fSeq (fIfS (fBin gGeI (fVar 3) (fBin gPowI (fK (.int 10)) (fK (.int 18)))) (fSeq (fSetI (fVar 0) (fK (.int 2)) (fVar 3)) (fSkip)) (fSeq (fSetI (fVar 0) (fK (.int 3)) (fBin gModI (fAp gInt (fCons (fBin gAdd (fBin gAdd (fBin gMul (fBin gIx (fVar 0) (fK (.int 3))) (fK (.int 61813))) (fBin gMul (fBin gModI (fAp gInt (fCons (fVar 3) (fNil))) (fK (.int 2147482951))) (fK (.int 7411)))) (fK (.int 57))) (fNil))) (fK (.int 2147483543)))) (fSkip))) (fSkip)))) (fSkip)) (fSeq (fIfS (fBin gGtI (fBin gIx (fVar 0) (fK (.int 2))) (fK (.int 0))) (fSeq (fSet 4 (fBin gModI (fAp gInt (fCons (fBin gIx (fVar 0) (fK (.int 2))) (fNil))) (fVar 1))) (fSeq (fSetI (fVar 0) (fK (.int 2)) (fBin gDivI (fBin gIx (fVar 0) (fK (.int 2))) (fVar 1))) (fSeq (fRet (fVar 4)) (fSkip)))) (fSkip)) (fSeq (fSet 2 (fBin gIx (fVar 0) (fK (.int 3)))) (fSeq (fSetI (fVar 0) (fK (.int 3)) (fBin gModI (fAp gInt (fCons (fBin gAdd (fBin gAdd (fBin gMul (fVar 2) (fVar 2)) (fBin gMul (fVar 2) (fK (.int 28411)))) (fK (.int 1502011))) (fNil))) (fK (.int 2147483543)))) (fSeq (fRet (fBin gModI (fAp gInt (fCons (fBin gAdd (fBin gDivI (fBin gIx (fVar 0) (fK (.int 3))) (fK (.int 71))) (fBin gMul (fBin gModI (fAp gInt (fCons (fBin gIx (fVar 0) (fK (.int 3))) (fNil))) (fK (.int 7919))) (fK (.int 47)))) (fNil))) (fVar 1))) (fSkip)))))
def g_law_pull : GA := gFn 5 fb_law_pull
theorem nd_law_pull : N_law_pull.Nodup := by decide +kernel
theorem ok_law_pull (h : Hyp w K mg base)  (F : ∃ fd, FunD K "_law_pull" "_law_pull" (defArgs s_law_pull) (defBody s_law_pull) (defScope s_law_pull) [] [] (He.fAd K ("_law_pull", none)) fd) : Fn P w K mg base (D.C K) 1 "_law_pull" g_law_pull 2 := by
  obtain ⟨fd, F⟩ := F
  obtain ⟨gl, fr, hT, mk⟩ := h
  have nd := nd_law_pull
  exact fn_def (N := N_law_pull) (ps := ["_law_bag_here", "_law_many_z"]) (k := 0) (fb := fb_law_pull) F (gl "_law_pull" (by kernel_rfl)) (C8.fnScope_by (by kernel_rfl)) (F.bindsN fun _ _ _ _ _ _ us hl => match us, hl with | [_, _], _ => rfl) fun cdv A outer s H E hr => by
    have tk : Takes (cxOf (L2.CX P w) P w K mg base N_law_pull "_law_pull" (defScope s_law_pull) (He.fAd K ("_law_pull", none)) cdv A outer s H E) (wE E) := tk_fn

    exact (ss_cons (ss_if (st_w (sw_and (st_cmp (o_eq hr) kk_eq (se_ix o_ix kk_ix (se_var (i := 0) rfl (vis_by (by kernel_rfl)) (by kernel_rfl) (by kernel_rfl)) (se_int)) (se_int) (nomark _)) (sw_one (st_cmp op_lt k_lt (se_ix o_ix kk_ix (se_var (i := 0) rfl (vis_by (by kernel_rfl)) (by kernel_rfl) (by kernel_rfl)) (se_int)) (se_callB (id := "len") call_len_seq k_len (gl_by (by kernel_rfl)) (fr "len" (by kernel_rfl)) (by kernel_rfl) (sa_cons (se_ix o_ix kk_ix (se_var (i := 0) rfl (vis_by (by kernel_rfl)) (by kernel_rfl) (by kernel_rfl)) (se_int)) (sa_nil)) (by decide +kernel) (by kernel_rfl)) (nomark _)) (.inl rfl)))) (ss_cons (ss_set (i := 3) nd rfl (loc_by (by kernel_rfl)) (se_ix o_ix kk_ix (se_ix o_ix kk_ix (se_var (i := 0) rfl (vis_by (by kernel_rfl)) (by kernel_rfl) (by kernel_rfl)) (se_int)) (se_ix o_ix kk_ix (se_var (i := 0) rfl (vis_by (by kernel_rfl)) (by kernel_rfl) (by kernel_rfl)) (se_int))) (by rfl) (.inl rfl)) (ss_cons (ss_setI (se_var (i := 0) rfl (vis_by (by kernel_rfl)) (by kernel_rfl) (by kernel_rfl)) (se_int) (se_op o_add kk_add (se_ix o_ix kk_ix (se_var (i := 0) rfl (vis_by (by kernel_rfl)) (by kernel_rfl) (by kernel_rfl)) (se_int)) (se_int))) (ss_cons (ss_if (st_cmp op_ge k_ge (se_var (i := 3) rfl (vis_by (by kernel_rfl)) (by kernel_rfl) (by kernel_rfl)) (se_op op_pow k_pow (se_int) (se_int)) (nomark _)) (ss_cons (ss_setI (se_var (i := 0) rfl (vis_by (by kernel_rfl)) (by kernel_rfl) (by kernel_rfl)) (se_int) (se_var (i := 3) rfl (vis_by (by kernel_rfl)) (by kernel_rfl) (by kernel_rfl))) (ss_nil)) (ss_cons (ss_setI (se_var (i := 0) rfl (vis_by (by kernel_rfl)) (by kernel_rfl) (by kernel_rfl)) (se_int) (se_op op_mod k_mod (se_callTy (T := "int") call_int1 k_int (gl_by (by kernel_rfl)) (fr "int" (by kernel_rfl)) (by kernel_rfl) (sa_cons (se_op o_add kk_add (se_op o_add kk_add (se_op o_mul kk_mul (se_ix o_ix kk_ix (se_var (i := 0) rfl (vis_by (by kernel_rfl)) (by kernel_rfl) (by kernel_rfl)) (se_int)) (se_int)) (se_op o_mul kk_mul (se_op op_mod k_mod (se_callTy (T := "int") call_int1 k_int (gl_by (by kernel_rfl)) (fr "int" (by kernel_rfl)) (by kernel_rfl) (sa_cons (se_var (i := 3) rfl (vis_by (by kernel_rfl)) (by kernel_rfl) (by kernel_rfl)) (sa_nil)) (by decide +kernel) (by kernel_rfl)) (se_int)) (se_int))) (se_int)) (sa_nil)) (by decide +kernel) (by kernel_rfl)) (se_int))) (ss_nil))) (ss_nil)))) (ss_nil)) (ss_cons (ss_if (st_cmp op_gt k_gt (se_ix o_ix kk_ix (se_var (i := 0) rfl (vis_by (by kernel_rfl)) (by kernel_rfl) (by kernel_rfl)) (se_int)) (se_int) (nomark _)) (ss_cons (ss_set (i := 4) nd rfl (loc_by (by kernel_rfl)) (se_op op_mod k_mod (se_callTy (T := "int") call_int1 k_int (gl_by (by kernel_rfl)) (fr "int" (by kernel_rfl)) (by kernel_rfl) (sa_cons (se_ix o_ix kk_ix (se_var (i := 0) rfl (vis_by (by kernel_rfl)) (by kernel_rfl) (by kernel_rfl)) (se_int)) (sa_nil)) (by decide +kernel) (by kernel_rfl)) (se_var (i := 1) rfl (vis_by (by kernel_rfl)) (by kernel_rfl) (by kernel_rfl))) (by rfl) (.inl rfl)) (ss_cons (ss_setI (se_var (i := 0) rfl (vis_by (by kernel_rfl)) (by kernel_rfl) (by kernel_rfl)) (se_int) (se_op op_fdiv k_div (se_ix o_ix kk_ix (se_var (i := 0) rfl (vis_by (by kernel_rfl)) (by kernel_rfl) (by kernel_rfl)) (se_int)) (se_var (i := 1) rfl (vis_by (by kernel_rfl)) (by kernel_rfl) (by kernel_rfl)))) (ss_cons (ss_ret (se_var (i := 4) rfl (vis_by (by kernel_rfl)) (by kernel_rfl) (by kernel_rfl))) (ss_nil)))) (ss_nil)) (ss_cons (ss_set (i := 2) nd rfl (loc_by (by kernel_rfl)) (se_ix o_ix kk_ix (se_var (i := 0) rfl (vis_by (by kernel_rfl)) (by kernel_rfl) (by kernel_rfl)) (se_int)) (by rfl) (.inl rfl)) (ss_cons (ss_setI (se_var (i := 0) rfl (vis_by (by kernel_rfl)) (by kernel_rfl) (by kernel_rfl)) (se_int) (se_op op_mod k_mod (se_callTy (T := "int") call_int1 k_int (gl_by (by kernel_rfl)) (fr "int" (by kernel_rfl)) (by kernel_rfl) (sa_cons (se_op o_add kk_add (se_op o_add kk_add (se_op o_mul kk_mul (se_var (i := 2) rfl (vis_by (by kernel_rfl)) (by kernel_rfl) (by kernel_rfl)) (se_var (i := 2) rfl (vis_by (by kernel_rfl)) (by kernel_rfl) (by kernel_rfl))) (se_op o_mul kk_mul (se_var (i := 2) rfl (vis_by (by kernel_rfl)) (by kernel_rfl) (by kernel_rfl)) (se_int))) (se_int)) (sa_nil)) (by decide +kernel) (by kernel_rfl)) (se_int))) (ss_cons (ss_ret (se_op op_mod k_mod (se_callTy (T := "int") call_int1 k_int (gl_by (by kernel_rfl)) (fr "int" (by kernel_rfl)) (by kernel_rfl) (sa_cons (se_op o_add kk_add (se_op op_fdiv k_div (se_ix o_ix kk_ix (se_var (i := 0) rfl (vis_by (by kernel_rfl)) (by kernel_rfl) (by kernel_rfl)) (se_int)) (se_int)) (se_op o_mul kk_mul (se_op op_mod k_mod (se_callTy (T := "int") call_int1 k_int (gl_by (by kernel_rfl)) (fr "int" (by kernel_rfl)) (by kernel_rfl) (sa_cons (se_ix o_ix kk_ix (se_var (i := 0) rfl (vis_by (by kernel_rfl)) (by kernel_rfl) (by kernel_rfl)) (se_int)) (sa_nil)) (by decide +kernel) (by kernel_rfl)) (se_int)) (se_int))) (sa_nil)) (by decide +kernel) (by kernel_rfl)) (se_var (i := 1) rfl (vis_by (by kernel_rfl)) (by kernel_rfl) (by kernel_rfl)))) (ss_nil))))))
abbrev N_law_of : List Str := ["_law_bag_here", "_law_some"]
def fb_law_of : SF := fSeq (fRet (fBin gIx (fVar 1) (fAp g_law_pull (fCons (fVar 0) (fCons (fAp gLen (fCons (fVar 1) (fNil))) (fNil)))))) (fSkip)
def g_law_of : GA := gFn 2 fb_law_of
theorem nd_law_of : N_law_of.Nodup := by decide +kernel
theorem ok_law_of (h : Hyp w K mg base) (f_law_pull : Fn P w K mg base (D.C K) 1 "_law_pull" g_law_pull 2) (F : ∃ fd, FunD K "_law_of" "_law_of" (defArgs s_law_of) (defBody s_law_of) (defScope s_law_of) [] [] (He.fAd K ("_law_of", none)) fd) : Fn P w K mg base (D.C K) 2 "_law_of" g_law_of 2 := by
  obtain ⟨fd, F⟩ := F
  obtain ⟨gl, fr, hT, mk⟩ := h
  have nd := nd_law_of
  exact fn_def (N := N_law_of) (ps := ["_law_bag_here", "_law_some"]) (k := 1) (fb := fb_law_of) F (gl "_law_of" (by kernel_rfl)) (C8.fnScope_by (by kernel_rfl)) (F.bindsN fun _ _ _ _ _ _ us hl => match us, hl with | [_, _], _ => rfl) fun cdv A outer s H E hr => by
    have tk : Takes (cxOf (L2.CX P w) P w K mg base N_law_of "_law_of" (defScope s_law_of) (He.fAd K ("_law_of", none)) cdv A outer s H E) (wE E) := tk_fn

    exact (ss_cons (ss_ret (se_ix o_ix kk_ix (se_var (i := 1) rfl (vis_by (by kernel_rfl)) (by kernel_rfl) (by kernel_rfl)) (se_call f_law_pull hr (by omega) tk (gl_by (by kernel_rfl)) (sa_cons (se_var (i := 0) rfl (vis_by (by kernel_rfl)) (by kernel_rfl) (by kernel_rfl)) (sa_cons (se_callB (id := "len") call_len_seq k_len (gl_by (by kernel_rfl)) (fr "len" (by kernel_rfl)) (by kernel_rfl) (sa_cons (se_var (i := 1) rfl (vis_by (by kernel_rfl)) (by kernel_rfl) (by kernel_rfl)) (sa_nil)) (by decide +kernel) (by kernel_rfl)) (sa_nil))) (len_cons (len_cons (len_nil))) (by kernel_rfl)))) (ss_nil))
abbrev N_law_tags : List Str := []
def fb_law_tags : SF := fSeq (fRet (fLst (fCons (fK (.str "InvalidFolks")) (fCons (fK (.str "InvalidForm")) (fCons (fK (.str "InvalidLine")) (fCons (fK (.str "InvalidCost")) (fCons (fK (.str "TooMany")) (fCons (fK (.str "InvalidText")) (fCons (fK (.str "InvalidSize")) (fCons (fK (.str "NoPlan")) (fCons (fK (.str "InvalidName")) (fCons (fK (.str "DuplicateName")) (fCons (fK (.str "CapacityExceeded")) (fCons (fK (.str "InvalidLimit")) (fCons (fK (.str "InvalidCommand")) (fCons (fK (.str "InvalidPage")) (fCons (fK (.str "UnknownName")) (fCons (fK (.str "NothingLeft")) (fNil))))))))))))))))))) (fSkip)
def g_law_tags : GA := gFn 0 fb_law_tags
theorem nd_law_tags : N_law_tags.Nodup := by decide +kernel
theorem ok_law_tags (h : Hyp w K mg base)  (F : ∃ fd, FunD K "_law_tags" "_law_tags" (defArgs s_law_tags) (defBody s_law_tags) (defScope s_law_tags) [] [] (He.fAd K ("_law_tags", none)) fd) : Fn P w K mg base (D.C K) 1 "_law_tags" g_law_tags 0 := by
  obtain ⟨fd, F⟩ := F
  obtain ⟨gl, fr, hT, mk⟩ := h
  have nd := nd_law_tags
  exact fn_def (N := N_law_tags) (ps := []) (k := 0) (fb := fb_law_tags) F (gl "_law_tags" (by kernel_rfl)) (C8.fnScope_by (by kernel_rfl)) (F.bindsN fun _ _ _ _ _ _ us hl => match us, hl with | [], _ => rfl) fun cdv A outer s H E hr => by
    have tk : Takes (cxOf (L2.CX P w) P w K mg base N_law_tags "_law_tags" (defScope s_law_tags) (He.fAd K ("_law_tags", none)) cdv A outer s H E) (wE E) := tk_fn

    exact (ss_cons (ss_ret (se_lst (sa_cons (se_str) (sa_cons (se_str) (sa_cons (se_str) (sa_cons (se_str) (sa_cons (se_str) (sa_cons (se_str) (sa_cons (se_str) (sa_cons (se_str) (sa_cons (se_str) (sa_cons (se_str) (sa_cons (se_str) (sa_cons (se_str) (sa_cons (se_str) (sa_cons (se_str) (sa_cons (se_str) (sa_cons (se_str) (sa_nil))))))))))))))))))) (ss_nil))
abbrev N_law_kinds : List Str := ["_law_error", "_law_kinds_here", "_law_at_z"]
def fb_law_kinds : SF := fSeq (fSet 1 (fLst (fCons (fIsC D.T 2 (fVar 0)) (fCons (fIsC D.T 3 (fVar 0)) (fCons (fIsC D.T 4 (fVar 0)) (fCons (fIsC D.T 5 (fVar 0)) (fNil))))))) (fSeq (fSet 1 (fBin gAdd (fVar 1) (fLst (fCons (fIsC D.T 6 (fVar 0)) (fCons (fIsC D.T 7 (fVar 0)) (fCons (fIsC D.T 8 (fVar 0)) (fCons (fIsC D.T 9 (fVar 0)) (fNil)))))))) (fSeq (fSet 1 (fBin gAdd (fVar 1) (fLst (fCons (fIsC D.T 10 (fVar 0)) (fCons (fIsC D.T 11 (fVar 0)) (fCons (fIsC D.T 12 (fVar 0)) (fNil))))))) (fSeq (fSet 1 (fBin gAdd (fVar 1) (fLst (fCons (fIsC D.T 13 (fVar 0)) (fCons (fIsC D.T 14 (fVar 0)) (fCons (fIsC D.T 15 (fVar 0)) (fNil))))))) (fSeq (fSet 1 (fBin gAdd (fVar 1) (fLst (fCons (fIsC D.T 16 (fVar 0)) (fCons (fIsC D.T 17 (fVar 0)) (fNil)))))) (fSeq (fRet (fLc (iRng (fCons (fK (.int 16)) (fNil))) (.one 2) [2] (fBin gIx (fVar 1) (fVar 2)) (fVar 2))) (fSkip))))))
def g_law_kinds : GA := gFn 3 fb_law_kinds
theorem nd_law_kinds : N_law_kinds.Nodup := by decide +kernel
theorem ok_law_kinds (h : Hyp w K mg base)  (F : ∃ fd, FunD K "_law_kinds" "_law_kinds" (defArgs s_law_kinds) (defBody s_law_kinds) (defScope s_law_kinds) [] [] (He.fAd K ("_law_kinds", none)) fd) : Fn P w K mg base (D.C K) 1 "_law_kinds" g_law_kinds 1 := by
  obtain ⟨fd, F⟩ := F
  obtain ⟨gl, fr, hT, mk⟩ := h
  have nd := nd_law_kinds
  exact fn_def (N := N_law_kinds) (ps := ["_law_error"]) (k := 0) (fb := fb_law_kinds) F (gl "_law_kinds" (by kernel_rfl)) (C8.fnScope_by (by kernel_rfl)) (F.bindsN fun _ _ _ _ _ _ us hl => match us, hl with | [_], _ => rfl) fun cdv A outer s H E hr => by
    have tk : Takes (cxOf (L2.CX P w) P w K mg base N_law_kinds "_law_kinds" (defScope s_law_kinds) (He.fAd K ("_law_kinds", none)) cdv A outer s H E) (wE E) := tk_fn

    exact (ss_cons (ss_set (i := 1) nd rfl (loc_by (by kernel_rfl)) (se_lst (sa_cons (se_isC (d := 2) hT (gl_by (by kernel_rfl)) (fr "isinstance" (by kernel_rfl)) (gl_by (by kernel_rfl)) (gl "InvalidFolks" (by kernel_rfl)) (se_var (i := 0) rfl (vis_by (by kernel_rfl)) (by kernel_rfl) (by kernel_rfl)) (by kernel_rfl)) (sa_cons (se_isC (d := 3) hT (gl_by (by kernel_rfl)) (fr "isinstance" (by kernel_rfl)) (gl_by (by kernel_rfl)) (gl "InvalidForm" (by kernel_rfl)) (se_var (i := 0) rfl (vis_by (by kernel_rfl)) (by kernel_rfl) (by kernel_rfl)) (by kernel_rfl)) (sa_cons (se_isC (d := 4) hT (gl_by (by kernel_rfl)) (fr "isinstance" (by kernel_rfl)) (gl_by (by kernel_rfl)) (gl "InvalidLine" (by kernel_rfl)) (se_var (i := 0) rfl (vis_by (by kernel_rfl)) (by kernel_rfl) (by kernel_rfl)) (by kernel_rfl)) (sa_cons (se_isC (d := 5) hT (gl_by (by kernel_rfl)) (fr "isinstance" (by kernel_rfl)) (gl_by (by kernel_rfl)) (gl "InvalidCost" (by kernel_rfl)) (se_var (i := 0) rfl (vis_by (by kernel_rfl)) (by kernel_rfl) (by kernel_rfl)) (by kernel_rfl)) (sa_nil)))))) (by rfl) (.inl rfl)) (ss_cons (ss_set (i := 1) nd rfl (loc_by (by kernel_rfl)) (se_op o_add kk_add (se_var (i := 1) rfl (vis_by (by kernel_rfl)) (by kernel_rfl) (by kernel_rfl)) (se_lst (sa_cons (se_isC (d := 6) hT (gl_by (by kernel_rfl)) (fr "isinstance" (by kernel_rfl)) (gl_by (by kernel_rfl)) (gl "TooMany" (by kernel_rfl)) (se_var (i := 0) rfl (vis_by (by kernel_rfl)) (by kernel_rfl) (by kernel_rfl)) (by kernel_rfl)) (sa_cons (se_isC (d := 7) hT (gl_by (by kernel_rfl)) (fr "isinstance" (by kernel_rfl)) (gl_by (by kernel_rfl)) (gl "InvalidText" (by kernel_rfl)) (se_var (i := 0) rfl (vis_by (by kernel_rfl)) (by kernel_rfl) (by kernel_rfl)) (by kernel_rfl)) (sa_cons (se_isC (d := 8) hT (gl_by (by kernel_rfl)) (fr "isinstance" (by kernel_rfl)) (gl_by (by kernel_rfl)) (gl "InvalidSize" (by kernel_rfl)) (se_var (i := 0) rfl (vis_by (by kernel_rfl)) (by kernel_rfl) (by kernel_rfl)) (by kernel_rfl)) (sa_cons (se_isC (d := 9) hT (gl_by (by kernel_rfl)) (fr "isinstance" (by kernel_rfl)) (gl_by (by kernel_rfl)) (gl "NoPlan" (by kernel_rfl)) (se_var (i := 0) rfl (vis_by (by kernel_rfl)) (by kernel_rfl) (by kernel_rfl)) (by kernel_rfl)) (sa_nil))))))) (by rfl) (.inl rfl)) (ss_cons (ss_set (i := 1) nd rfl (loc_by (by kernel_rfl)) (se_op o_add kk_add (se_var (i := 1) rfl (vis_by (by kernel_rfl)) (by kernel_rfl) (by kernel_rfl)) (se_lst (sa_cons (se_isC (d := 10) hT (gl_by (by kernel_rfl)) (fr "isinstance" (by kernel_rfl)) (gl_by (by kernel_rfl)) (gl "InvalidName" (by kernel_rfl)) (se_var (i := 0) rfl (vis_by (by kernel_rfl)) (by kernel_rfl) (by kernel_rfl)) (by kernel_rfl)) (sa_cons (se_isC (d := 11) hT (gl_by (by kernel_rfl)) (fr "isinstance" (by kernel_rfl)) (gl_by (by kernel_rfl)) (gl "DuplicateName" (by kernel_rfl)) (se_var (i := 0) rfl (vis_by (by kernel_rfl)) (by kernel_rfl) (by kernel_rfl)) (by kernel_rfl)) (sa_cons (se_isC (d := 12) hT (gl_by (by kernel_rfl)) (fr "isinstance" (by kernel_rfl)) (gl_by (by kernel_rfl)) (gl "CapacityExceeded" (by kernel_rfl)) (se_var (i := 0) rfl (vis_by (by kernel_rfl)) (by kernel_rfl) (by kernel_rfl)) (by kernel_rfl)) (sa_nil)))))) (by rfl) (.inl rfl)) (ss_cons (ss_set (i := 1) nd rfl (loc_by (by kernel_rfl)) (se_op o_add kk_add (se_var (i := 1) rfl (vis_by (by kernel_rfl)) (by kernel_rfl) (by kernel_rfl)) (se_lst (sa_cons (se_isC (d := 13) hT (gl_by (by kernel_rfl)) (fr "isinstance" (by kernel_rfl)) (gl_by (by kernel_rfl)) (gl "InvalidLimit" (by kernel_rfl)) (se_var (i := 0) rfl (vis_by (by kernel_rfl)) (by kernel_rfl) (by kernel_rfl)) (by kernel_rfl)) (sa_cons (se_isC (d := 14) hT (gl_by (by kernel_rfl)) (fr "isinstance" (by kernel_rfl)) (gl_by (by kernel_rfl)) (gl "InvalidCommand" (by kernel_rfl)) (se_var (i := 0) rfl (vis_by (by kernel_rfl)) (by kernel_rfl) (by kernel_rfl)) (by kernel_rfl)) (sa_cons (se_isC (d := 15) hT (gl_by (by kernel_rfl)) (fr "isinstance" (by kernel_rfl)) (gl_by (by kernel_rfl)) (gl "InvalidPage" (by kernel_rfl)) (se_var (i := 0) rfl (vis_by (by kernel_rfl)) (by kernel_rfl) (by kernel_rfl)) (by kernel_rfl)) (sa_nil)))))) (by rfl) (.inl rfl)) (ss_cons (ss_set (i := 1) nd rfl (loc_by (by kernel_rfl)) (se_op o_add kk_add (se_var (i := 1) rfl (vis_by (by kernel_rfl)) (by kernel_rfl) (by kernel_rfl)) (se_lst (sa_cons (se_isC (d := 16) hT (gl_by (by kernel_rfl)) (fr "isinstance" (by kernel_rfl)) (gl_by (by kernel_rfl)) (gl "UnknownName" (by kernel_rfl)) (se_var (i := 0) rfl (vis_by (by kernel_rfl)) (by kernel_rfl) (by kernel_rfl)) (by kernel_rfl)) (sa_cons (se_isC (d := 17) hT (gl_by (by kernel_rfl)) (fr "isinstance" (by kernel_rfl)) (gl_by (by kernel_rfl)) (gl "NothingLeft" (by kernel_rfl)) (se_var (i := 0) rfl (vis_by (by kernel_rfl)) (by kernel_rfl) (by kernel_rfl)) (by kernel_rfl)) (sa_nil))))) (by rfl) (.inl rfl)) (ss_cons (ss_ret (se_lc (t := .one 2) (own := [("_law_at_z", 2)]) rfl nd (si_range1 (gl_by (by kernel_rfl)) (fr "range" (by kernel_rfl)) (sa_cons (se_int) (sa_nil))) (blkOk_by (by kernel_rfl)) (fun _ _ _ _ _ => pg_name (i := 2) nd rfl (loc_by (by kernel_rfl)) (.inr (by kernel_rfl))) (fun _ _ _ _ _ => sts_one (st_e (se_ix o_ix kk_ix (se_var (i := 1) rfl (vis_by (by kernel_rfl)) (by kernel_rfl) (by kernel_rfl)) (se_var (i := 2) rfl (vis_by (by kernel_rfl)) (by kernel_rfl) (by kernel_rfl))))) (fun _ _ _ _ _ => se_var (i := 2) rfl (vis_by (by kernel_rfl)) (by kernel_rfl) (by kernel_rfl)) (by decide))) (ss_nil)))))))
abbrev N_law_same : List Str := ["_law_found", "_law_due", "_law_one_z", "_law_other_z"]
def fb_law_same (rec : GA) : SF := fSeq (fIfS (fAp (gIsi D.T) (fCons (fVar 1) (fCons (fTup (fCons (fK (.ty "list")) (fCons (fK (.ty "tuple")) (fNil)))) (fNil)))) (fSeq (fIfS (fOr (fBin gNe (fAp (gIsi D.T) (fCons (fVar 0) (fCons (fK (.ty "list")) (fNil)))) (fAp (gIsi D.T) (fCons (fVar 1) (fCons (fK (.ty "list")) (fNil))))) (fBin gNe (fAp (gIsi D.T) (fCons (fVar 0) (fCons (fK (.ty "tuple")) (fNil)))) (fAp (gIsi D.T) (fCons (fVar 1) (fCons (fK (.ty "tuple")) (fNil)))))) (fSeq (fRet (fK (.bl false))) (fSkip)) (fSkip)) (fSeq (fRet (fAnd (fBin gEq (fAp gLen (fCons (fVar 0) (fNil))) (fAp gLen (fCons (fVar 1) (fNil)))) (fAp gAll (fCons (fLc (iZip' (fCons (fVar 0) (fCons (fVar 1) (fNil)))) (.two 2 3) [2, 3] (tYesF) (fAp rec (fCons (fVar 2) (fCons (fVar 3) (fNil))))) (fNil))))) (fSkip))) (fSkip)) (fSeq (fIfS (fOr (fBin gIsN (fVar 1) (fK .non)) (fBin gIsN (fVar 0) (fK .non))) (fSeq (fRet (fAnd (fBin gIsN (fVar 1) (fK .non)) (fBin gIsN (fVar 0) (fK .non)))) (fSkip)) (fSkip)) (fSeq (fIfS (fOr (fBin gNe (fAp (gIsi D.T) (fCons (fVar 0) (fCons (fK (.ty "bool")) (fNil)))) (fAp (gIsi D.T) (fCons (fVar 1) (fCons (fK (.ty "bool")) (fNil))))) (fBin gNe (fAp (gIsi D.T) (fCons (fVar 0) (fCons (fK (.ty "int")) (fNil)))) (fAp (gIsi D.T) (fCons (fVar 1) (fCons (fK (.ty "int")) (fNil)))))) (fSeq (fRet (fK (.bl false))) (fSkip)) (fSkip)) (fSeq (fRet (fAnd (fBin gEq (fAp (gIsi D.T) (fCons (fVar 0) (fCons (fK (.ty "str")) (fNil)))) (fAp (gIsi D.T) (fCons (fVar 1) (fCons (fK (.ty "str")) (fNil))))) (fBin gEq (fVar 0) (fVar 1)))) (fSkip))))
def g_law_same : Nat → GA
  | 0 => fun _ _ => .no
  | n + 1 => gFn 4 (fb_law_same (g_law_same n))
theorem nd_law_same : N_law_same.Nodup := by decide +kernel
theorem st_law_same (h : Hyp w K mg base)  {k : Nat} {rec : GA} (hk0 : 0 ≤ k) (f_law_same : Fn P w K mg base (D.C K) k "_law_same" rec 2) (F : ∃ fd, FunD K "_law_same" "_law_same" (defArgs s_law_same) (defBody s_law_same) (defScope s_law_same) [] [] (He.fAd K ("_law_same", none)) fd) : Fn P w K mg base (D.C K) (k + 1) "_law_same" (gFn 4 (fb_law_same rec)) 2 := by
  obtain ⟨fd, F⟩ := F
  obtain ⟨gl, fr, hT, mk⟩ := h
  have nd := nd_law_same
  exact fn_def (N := N_law_same) (ps := ["_law_found", "_law_due"]) (k := k) (fb := fb_law_same rec) F (gl "_law_same" (by kernel_rfl)) (C8.fnScope_by (by kernel_rfl)) (F.bindsN fun _ _ _ _ _ _ us hl => match us, hl with | [_, _], _ => rfl) fun cdv A outer s H E hr => by
    have tk : Takes (cxOf (L2.CX P w) P w K mg base N_law_same "_law_same" (defScope s_law_same) (He.fAd K ("_law_same", none)) cdv A outer s H E) (wE E) := tk_fn
    exact (ss_cons (ss_if (st_e (se_callB (id := "isinstance") call_isA (k_isi hT) (gl_by (by kernel_rfl)) (fr "isinstance" (by kernel_rfl)) (by kernel_rfl) (sa_cons (se_var (i := 1) rfl (vis_by (by kernel_rfl)) (by kernel_rfl) (by kernel_rfl)) (sa_cons (se_tup (sa_cons (se_ty (T := "list") (gl_by (by kernel_rfl)) (fr "list" (by kernel_rfl)) (by kernel_rfl) (by decide +kernel) (by kernel_rfl)) (sa_cons (se_ty (T := "tuple") (gl_by (by kernel_rfl)) (fr "tuple" (by kernel_rfl)) (by kernel_rfl) (by decide +kernel) (by kernel_rfl)) (sa_nil)))) (sa_nil))) (by decide +kernel) (by kernel_rfl))) (ss_cons (ss_if (st_w (sw_or (st_cmp (o_ne hr) kk_ne (se_callB (id := "isinstance") call_isA (k_isi hT) (gl_by (by kernel_rfl)) (fr "isinstance" (by kernel_rfl)) (by kernel_rfl) (sa_cons (se_var (i := 0) rfl (vis_by (by kernel_rfl)) (by kernel_rfl) (by kernel_rfl)) (sa_cons (se_ty (T := "list") (gl_by (by kernel_rfl)) (fr "list" (by kernel_rfl)) (by kernel_rfl) (by decide +kernel) (by kernel_rfl)) (sa_nil))) (by decide +kernel) (by kernel_rfl)) (se_callB (id := "isinstance") call_isA (k_isi hT) (gl_by (by kernel_rfl)) (fr "isinstance" (by kernel_rfl)) (by kernel_rfl) (sa_cons (se_var (i := 1) rfl (vis_by (by kernel_rfl)) (by kernel_rfl) (by kernel_rfl)) (sa_cons (se_ty (T := "list") (gl_by (by kernel_rfl)) (fr "list" (by kernel_rfl)) (by kernel_rfl) (by decide +kernel) (by kernel_rfl)) (sa_nil))) (by decide +kernel) (by kernel_rfl)) (nomark _)) (sw_one (st_cmp (o_ne hr) kk_ne (se_callB (id := "isinstance") call_isA (k_isi hT) (gl_by (by kernel_rfl)) (fr "isinstance" (by kernel_rfl)) (by kernel_rfl) (sa_cons (se_var (i := 0) rfl (vis_by (by kernel_rfl)) (by kernel_rfl) (by kernel_rfl)) (sa_cons (se_ty (T := "tuple") (gl_by (by kernel_rfl)) (fr "tuple" (by kernel_rfl)) (by kernel_rfl) (by decide +kernel) (by kernel_rfl)) (sa_nil))) (by decide +kernel) (by kernel_rfl)) (se_callB (id := "isinstance") call_isA (k_isi hT) (gl_by (by kernel_rfl)) (fr "isinstance" (by kernel_rfl)) (by kernel_rfl) (sa_cons (se_var (i := 1) rfl (vis_by (by kernel_rfl)) (by kernel_rfl) (by kernel_rfl)) (sa_cons (se_ty (T := "tuple") (gl_by (by kernel_rfl)) (fr "tuple" (by kernel_rfl)) (by kernel_rfl) (by decide +kernel) (by kernel_rfl)) (sa_nil))) (by decide +kernel) (by kernel_rfl)) (nomark _)) (.inr rfl)))) (ss_cons (ss_ret (se_bl)) (ss_nil)) (ss_nil)) (ss_cons (ss_ret (se_and (se_cmp (o_eq hr) kk_eq (se_callB (id := "len") call_len_seq k_len (gl_by (by kernel_rfl)) (fr "len" (by kernel_rfl)) (by kernel_rfl) (sa_cons (se_var (i := 0) rfl (vis_by (by kernel_rfl)) (by kernel_rfl) (by kernel_rfl)) (sa_nil)) (by decide +kernel) (by kernel_rfl)) (se_callB (id := "len") call_len_seq k_len (gl_by (by kernel_rfl)) (fr "len" (by kernel_rfl)) (by kernel_rfl) (sa_cons (se_var (i := 1) rfl (vis_by (by kernel_rfl)) (by kernel_rfl) (by kernel_rfl)) (sa_nil)) (by decide +kernel) (by kernel_rfl)) (nomark _)) (se_one (se_callB (id := "all") (cr_all (by rfl)) k_all (gl_by (by kernel_rfl)) (fr "all" (by kernel_rfl)) (by kernel_rfl) (sa_cons (se_lc (t := .two 2 3) (own := [("_law_one_z", 2), ("_law_other_z", 3)]) rfl nd (si_zip (gl_by (by kernel_rfl)) (fr "zip" (by kernel_rfl)) (sa_cons (se_var (i := 0) rfl (vis_by (by kernel_rfl)) (by kernel_rfl) (by kernel_rfl)) (sa_cons (se_var (i := 1) rfl (vis_by (by kernel_rfl)) (by kernel_rfl) (by kernel_rfl)) (sa_nil)))) (blkOk_by (by kernel_rfl)) (fun _ _ _ _ _ => pg_tup rfl (pgs_cons (pg_name (i := 2) nd rfl (loc_by (by kernel_rfl)) (.inr (by kernel_rfl))) (pgs_cons (pg_name (i := 3) nd rfl (loc_by (by kernel_rfl)) (.inr (by kernel_rfl))) pgs_nil))) (fun _ _ _ _ _ => sts_nil) (fun _ _ _ _ _ => se_call f_law_same hr (by omega) takes0 (gl_by (by kernel_rfl)) (sa_cons (se_var (i := 2) rfl (vis_by (by kernel_rfl)) (by kernel_rfl) (by kernel_rfl)) (sa_cons (se_var (i := 3) rfl (vis_by (by kernel_rfl)) (by kernel_rfl) (by kernel_rfl)) (sa_nil))) (len_cons (len_cons (len_nil))) (by kernel_rfl)) (by decide)) (sa_nil)) (by decide +kernel) (by kernel_rfl))))) (ss_nil))) (ss_nil)) (ss_cons (ss_if (st_w (sw_or (st_cmp op_isN k_isN (se_var (i := 1) rfl (vis_by (by kernel_rfl)) (by kernel_rfl) (by kernel_rfl)) (se_non) (nomark _)) (sw_one (st_cmp op_isN k_isN (se_var (i := 0) rfl (vis_by (by kernel_rfl)) (by kernel_rfl) (by kernel_rfl)) (se_non) (nomark _)) (.inr rfl)))) (ss_cons (ss_ret (se_and (se_cmp op_isN k_isN (se_var (i := 1) rfl (vis_by (by kernel_rfl)) (by kernel_rfl) (by kernel_rfl)) (se_non) (nomark _)) (se_one (se_cmp op_isN k_isN (se_var (i := 0) rfl (vis_by (by kernel_rfl)) (by kernel_rfl) (by kernel_rfl)) (se_non) (nomark _))))) (ss_nil)) (ss_nil)) (ss_cons (ss_if (st_w (sw_or (st_cmp (o_ne hr) kk_ne (se_callB (id := "isinstance") call_isA (k_isi hT) (gl_by (by kernel_rfl)) (fr "isinstance" (by kernel_rfl)) (by kernel_rfl) (sa_cons (se_var (i := 0) rfl (vis_by (by kernel_rfl)) (by kernel_rfl) (by kernel_rfl)) (sa_cons (se_ty (T := "bool") (gl_by (by kernel_rfl)) (fr "bool" (by kernel_rfl)) (by kernel_rfl) (by decide +kernel) (by kernel_rfl)) (sa_nil))) (by decide +kernel) (by kernel_rfl)) (se_callB (id := "isinstance") call_isA (k_isi hT) (gl_by (by kernel_rfl)) (fr "isinstance" (by kernel_rfl)) (by kernel_rfl) (sa_cons (se_var (i := 1) rfl (vis_by (by kernel_rfl)) (by kernel_rfl) (by kernel_rfl)) (sa_cons (se_ty (T := "bool") (gl_by (by kernel_rfl)) (fr "bool" (by kernel_rfl)) (by kernel_rfl) (by decide +kernel) (by kernel_rfl)) (sa_nil))) (by decide +kernel) (by kernel_rfl)) (nomark _)) (sw_one (st_cmp (o_ne hr) kk_ne (se_callB (id := "isinstance") call_isA (k_isi hT) (gl_by (by kernel_rfl)) (fr "isinstance" (by kernel_rfl)) (by kernel_rfl) (sa_cons (se_var (i := 0) rfl (vis_by (by kernel_rfl)) (by kernel_rfl) (by kernel_rfl)) (sa_cons (se_ty (T := "int") (gl_by (by kernel_rfl)) (fr "int" (by kernel_rfl)) (by kernel_rfl) (by decide +kernel) (by kernel_rfl)) (sa_nil))) (by decide +kernel) (by kernel_rfl)) (se_callB (id := "isinstance") call_isA (k_isi hT) (gl_by (by kernel_rfl)) (fr "isinstance" (by kernel_rfl)) (by kernel_rfl) (sa_cons (se_var (i := 1) rfl (vis_by (by kernel_rfl)) (by kernel_rfl) (by kernel_rfl)) (sa_cons (se_ty (T := "int") (gl_by (by kernel_rfl)) (fr "int" (by kernel_rfl)) (by kernel_rfl) (by decide +kernel) (by kernel_rfl)) (sa_nil))) (by decide +kernel) (by kernel_rfl)) (nomark _)) (.inr rfl)))) (ss_cons (ss_ret (se_bl)) (ss_nil)) (ss_nil)) (ss_cons (ss_ret (se_and (se_cmp (o_eq hr) kk_eq (se_callB (id := "isinstance") call_isA (k_isi hT) (gl_by (by kernel_rfl)) (fr "isinstance" (by kernel_rfl)) (by kernel_rfl) (sa_cons (se_var (i := 0) rfl (vis_by (by kernel_rfl)) (by kernel_rfl) (by kernel_rfl)) (sa_cons (se_ty (T := "str") (gl_by (by kernel_rfl)) (fr "str" (by kernel_rfl)) (by kernel_rfl) (by decide +kernel) (by kernel_rfl)) (sa_nil))) (by decide +kernel) (by kernel_rfl)) (se_callB (id := "isinstance") call_isA (k_isi hT) (gl_by (by kernel_rfl)) (fr "isinstance" (by kernel_rfl)) (by kernel_rfl) (sa_cons (se_var (i := 1) rfl (vis_by (by kernel_rfl)) (by kernel_rfl) (by kernel_rfl)) (sa_cons (se_ty (T := "str") (gl_by (by kernel_rfl)) (fr "str" (by kernel_rfl)) (by kernel_rfl) (by decide +kernel) (by kernel_rfl)) (sa_nil))) (by decide +kernel) (by kernel_rfl)) (nomark _)) (se_one (se_cmp (o_eq hr) kk_eq (se_var (i := 0) rfl (vis_by (by kernel_rfl)) (by kernel_rfl) (by kernel_rfl)) (se_var (i := 1) rfl (vis_by (by kernel_rfl)) (by kernel_rfl) (by kernel_rfl)) (nomark _))))) (ss_nil)))))
theorem ok_law_same (h : Hyp w K mg base)  (F : ∃ fd, FunD K "_law_same" "_law_same" (defArgs s_law_same) (defBody s_law_same) (defScope s_law_same) [] [] (He.fAd K ("_law_same", none)) fd) : ∀ n, Fn P w K mg base (D.C K) (0 + n) "_law_same" (g_law_same n) 2
  | 0 => by
    obtain ⟨fd, F⟩ := F
    exact Fn.zero (ps := ["_law_found", "_law_due"]) F (h.gl "_law_same" (by kernel_rfl)) (F.bindsN fun _ _ _ _ _ _ us hl => match us, hl with | [_, _], _ => rfl)
  | n + 1 => st_law_same h  (Nat.le_add_right _ _) (ok_law_same h  F n) F
def fb_law : SF := fSeq (fSet 1 (fAp g_law_bag (fCons (fVar 0) (fNil)))) (fSeq (fSet 2 (fAp g_law_of (fCons (fVar 1) (fCons (fLst (fCons (fK .non) (fCons (fK (.int 0)) (fCons (fBin gSubI (fK (.int 0)) (fK (.int 7))) (fCons (fK (.str "x")) (fCons (fK (.bl true)) (fCons (fTup (fCons (fK (.int 1)) (fCons (fK (.int 2)) (fNil)))) (fCons (fBin gPowI (fK (.int 10)) (fK (.int 25))) (fCons (fK (.str "")) (fNil)))))))))) (fNil))))) (fSeq (fSet 3 (fLst (fCons (fAp (mkX 2 (mf1 "index" "InvalidFolks") 1) (fCons (fVar 2) (fNil))) (fCons (fAp (mkX 3 (mf1 "index" "InvalidForm") 1) (fCons (fVar 2) fNil)) (fCons (fAp (mkX 4 (mf1 "index" "InvalidLine") 1) (fCons (fVar 2) (fNil))) (fCons (fAp (mkX 5 (mf1 "index" "InvalidCost") 1) (fCons (fVar 2) (fNil))) (fCons (fAp (mkX 6 (mf1 "most" "TooMany") 1) (fCons (fVar 2) fNil)) (fCons (fAp (mkX 7 (mf1 "row" "InvalidText") 1) (fCons (fVar 2) fNil)) (fCons (fAp (mkX 8 (mf1 "given" "InvalidSize") 1) (fCons (fVar 2) fNil)) (fNil)))))))))) (fSeq (fSet 3 (fBin gAdd (fVar 3) (fLst (fCons (fAp (mkX 9 (mf1 "word" "NoPlan") 1) (fCons (fVar 2) fNil)) (fCons (fAp (mkX 10 (mf1 "name" "InvalidName") 1) (fCons (fVar 2) (fNil))) (fCons (fAp (mkX 11 (mf1 "name" "DuplicateName") 1) (fCons (fVar 2) fNil)) (fCons (fAp (mkX 12 (mf1 "limit" "CapacityExceeded") 1) (fCons (fVar 2) fNil)) (fCons (fAp (mkX 13 (mf1 "given" "InvalidLimit") 1) (fCons (fVar 2) (fNil))) (fCons (fAp (mkX 14 (mf1 "position" "InvalidCommand") 1) (fCons (fVar 2) fNil)) (fNil)))))))))) (fSeq (fSet 3 (fBin gAdd (fVar 3) (fLst (fCons (fAp (mkX 15 (mf1 "line" "InvalidPage") 1) (fCons (fVar 2) fNil)) (fCons (fAp (mkX 16 (mf1 "name" "UnknownName") 1) (fCons (fVar 2) fNil)) (fCons (fAp (mkX 17 (mf0 "NothingLeft") 0) fNil) (fNil))))))) (fSeq (fIfS (fNot (fAp (g_law_same 6) (fCons (fLc (iSeq (fVar 3)) (.one 6) [6] (tYesF) (fAt D.T "tag" (fVar 6))) (fCons (fAp g_law_tags fNil) (fNil))))) (fSeq (fRet (fK (.bl false))) (fSkip)) (fSkip)) (fSeq (fSet 4 (fBin gAdd (fLc (iSeq (fSl (fVar 3) (fNoP) (fPart (fK (.int 4))))) (.one 6) [6] (tYesF) (fAt D.T "index" (fVar 6))) (fLst (fCons (fAt D.T "most" (fBin gIx (fVar 3) (fK (.int 4)))) (fCons (fAt D.T "row" (fBin gIx (fVar 3) (fK (.int 5)))) (fCons (fAt D.T "given" (fBin gIx (fVar 3) (fK (.int 6)))) (fCons (fAt D.T "word" (fBin gIx (fVar 3) (fK (.int 7)))) (fCons (fAt D.T "name" (fBin gIx (fVar 3) (fK (.int 8)))) (fCons (fAt D.T "name" (fBin gIx (fVar 3) (fK (.int 9)))) (fCons (fAt D.T "limit" (fBin gIx (fVar 3) (fK (.int 10)))) (fNil))))))))))) (fSeq (fSet 4 (fBin gAdd (fVar 4) (fLst (fCons (fAt D.T "given" (fBin gIx (fVar 3) (fK (.int 11)))) (fCons (fAt D.T "position" (fBin gIx (fVar 3) (fK (.int 12)))) (fCons (fAt D.T "line" (fBin gIx (fVar 3) (fK (.int 13)))) (fCons (fAt D.T "name" (fBin gIx (fVar 3) (fK (.int 14)))) (fNil)))))))) (fSeq (fIfS (fNot (fAp (g_law_same 6) (fCons (fVar 4) (fCons (fBin gMul (fLst (fCons (fVar 2) (fNil))) (fK (.int 15))) (fNil))))) (fSeq (fRet (fK (.bl false))) (fSkip)) (fSkip)) (fSeq (fFor (iRng (fCons (fK (.int 16)) (fNil))) (.one 5) (fSeq (fSet 6 (fBin gIx (fVar 3) (fVar 5))) (fSeq (fSet 7 (fLst (fCons (fIsC D.T 0 (fVar 6)) (fCons (fAp (gIsi D.T) (fCons (fVar 6) (fCons (fK (.ty "ValueError")) (fNil)))) (fCons (fIsC D.T 1 (fVar 6)) (fCons (fAp (gIsi D.T) (fCons (fVar 6) (fCons (fK (.ty "LookupError")) (fNil)))) (fCons (fAp (gIsi D.T) (fCons (fVar 6) (fCons (fK (.ty "IndexError")) (fNil)))) (fNil)))))))) (fSeq (fSet 8 (fIf (fBin gLtI (fVar 5) (fK (.int 14))) (fLst (fCons (fK (.bl true)) (fCons (fK (.bl true)) (fCons (fK (.bl false)) (fCons (fK (.bl false)) (fCons (fK (.bl false)) (fNil))))))) (fIf (fBin gEq (fVar 5) (fK (.int 14))) (fLst (fCons (fK (.bl false)) (fCons (fK (.bl false)) (fCons (fK (.bl true)) (fCons (fK (.bl true)) (fCons (fK (.bl false)) (fNil))))))) (fLst (fCons (fK (.bl false)) (fCons (fK (.bl false)) (fCons (fK (.bl false)) (fCons (fK (.bl true)) (fCons (fK (.bl true)) (fNil)))))))))) (fSeq (fIfS (fBin gNe (fVar 7) (fVar 8)) (fSeq (fRet (fK (.bl false))) (fSkip)) (fSkip)) (fSeq (fIfS (fBin gNe (fAp g_law_kinds (fCons (fVar 6) (fNil))) (fLst (fCons (fVar 5) (fNil)))) (fSeq (fRet (fK (.bl false))) (fSkip)) (fSkip)) (fSkip))))))) (fSeq (fRet (fAp (g_law_same 6) (fCons (fWhy) (fCons (fTup (fCons (fK (.str "InvalidFolks")) (fCons (fK .non) (fNil)))) (fNil))))) (fSkip)))))))))))
def g_law : GA := gFn 9 fb_law
theorem nd_law : N_law.Nodup := by decide +kernel
theorem ok_law (h : Hyp w K mg base) (f_law_bag : Fn P w K mg base (D.C K) 1 "_law_bag" g_law_bag 1) (f_law_of : Fn P w K mg base (D.C K) 2 "_law_of" g_law_of 2) (f_law_tags : Fn P w K mg base (D.C K) 1 "_law_tags" g_law_tags 0) (f_law_kinds : Fn P w K mg base (D.C K) 1 "_law_kinds" g_law_kinds 1) (f_law_same : Fn P w K mg base (D.C K) 6 "_law_same" (g_law_same 6) 2) (hwhy : ∀ A outer s H E, Room 19 (A.deeper (envOfC "law" (defScope s_law) s.heap.objs.size (He.fAd K ("law", none)) (.ref (He.codeOf K ("law", none))))) → PE (cxOf (L2.CX P w) P w K mg base N_law "law" (defScope s_law) (He.fAd K ("law", none)) (.ref (He.codeOf K ("law", none))) A outer s H E) whyE (tE (D.C K) (wE E) fWhy)) {fd : FuncData} (F : FunD K "law" "law" (defArgs s_law) (defBody s_law) (defScope s_law) [] [] (He.fAd K ("law", none)) fd) : FnOk P w K mg base (L2.CX P w) 20 (He.fAd K ("law", none)) fd ["_law_script"] (spF (D.C K) g_law 1) := by
  obtain ⟨gl, fr, hT, mk⟩ := h
  have nd := nd_law
  exact fn_okC (N := N_law) (ps := ["_law_script"]) (k := 19) (fb := fb_law) F (C8.fnScope_by (by kernel_rfl)) fun A outer s H E hr => by
    have tk : Takes (cxOf (L2.CX P w) P w K mg base N_law "law" (defScope s_law) (He.fAd K ("law", none)) (.ref (He.codeOf K ("law", none))) A outer s H E) (wE E) := tk_fn
    have hwy := hwhy A outer s H E hr
    exact (ss_cons (ss_set (i := 1) nd rfl (loc_by (by kernel_rfl)) (se_call f_law_bag hr (by omega) tk (gl_by (by kernel_rfl)) (sa_cons (se_var (i := 0) rfl (vis_by (by kernel_rfl)) (by kernel_rfl) (by kernel_rfl)) (sa_nil)) (len_cons (len_nil)) (by kernel_rfl)) (by rfl) (.inl rfl)) (ss_cons (ss_set (i := 2) nd rfl (loc_by (by kernel_rfl)) (se_call f_law_of hr (by omega) tk (gl_by (by kernel_rfl)) (sa_cons (se_var (i := 1) rfl (vis_by (by kernel_rfl)) (by kernel_rfl) (by kernel_rfl)) (sa_cons (se_lst (sa_cons (se_non) (sa_cons (se_int) (sa_cons (se_op op_sub k_sub (se_int) (se_int)) (sa_cons (se_str) (sa_cons (se_bl) (sa_cons (se_tup (sa_cons (se_int) (sa_cons (se_int) (sa_nil)))) (sa_cons (se_op op_pow k_pow (se_int) (se_int)) (sa_cons (se_str) (sa_nil)))))))))) (sa_nil))) (len_cons (len_cons (len_nil))) (by kernel_rfl)) (by rfl) (.inl rfl)) (ss_cons (ss_set (i := 3) nd rfl (loc_by (by kernel_rfl)) (se_lst (sa_cons (se_mk (c := 2) (n := 1) (mk x_InvalidFolks (by simp [xs]) (by intro y hy; cases hy <;> exact fun _ _ _ _ _ _ _ _ _ _ _ _ _ _ _ _ => ⟨rfl, rfl⟩)) fok1 hr (by decide) (gl_by (by kernel_rfl)) (gl "InvalidFolks" (by kernel_rfl)) (sa_cons (se_var (i := 2) rfl (vis_by (by kernel_rfl)) (by kernel_rfl) (by kernel_rfl)) (sa_nil)) (by kernel_rfl)) (sa_cons (se_mkk (c := 3) (mk x_InvalidForm (by simp [xs]) (by intro y hy; cases hy <;> exact fun _ _ _ _ _ _ _ _ _ _ _ _ _ _ _ _ => ⟨rfl, rfl⟩)) fok1 hr (by decide) (gl_by (by kernel_rfl)) (gl "InvalidForm" (by kernel_rfl)) (se_var (i := 2) rfl (vis_by (by kernel_rfl)) (by kernel_rfl) (by kernel_rfl)) (by kernel_rfl)) (sa_cons (se_mk (c := 4) (n := 1) (mk x_InvalidLine (by simp [xs]) (by intro y hy; cases hy <;> exact fun _ _ _ _ _ _ _ _ _ _ _ _ _ _ _ _ => ⟨rfl, rfl⟩)) fok1 hr (by decide) (gl_by (by kernel_rfl)) (gl "InvalidLine" (by kernel_rfl)) (sa_cons (se_var (i := 2) rfl (vis_by (by kernel_rfl)) (by kernel_rfl) (by kernel_rfl)) (sa_nil)) (by kernel_rfl)) (sa_cons (se_mk (c := 5) (n := 1) (mk x_InvalidCost (by simp [xs]) (by intro y hy; cases hy <;> exact fun _ _ _ _ _ _ _ _ _ _ _ _ _ _ _ _ => ⟨rfl, rfl⟩)) fok1 hr (by decide) (gl_by (by kernel_rfl)) (gl "InvalidCost" (by kernel_rfl)) (sa_cons (se_var (i := 2) rfl (vis_by (by kernel_rfl)) (by kernel_rfl) (by kernel_rfl)) (sa_nil)) (by kernel_rfl)) (sa_cons (se_mkk (c := 6) (mk x_TooMany (by simp [xs]) (by intro y hy; cases hy <;> exact fun _ _ _ _ _ _ _ _ _ _ _ _ _ _ _ _ => ⟨rfl, rfl⟩)) fok1 hr (by decide) (gl_by (by kernel_rfl)) (gl "TooMany" (by kernel_rfl)) (se_var (i := 2) rfl (vis_by (by kernel_rfl)) (by kernel_rfl) (by kernel_rfl)) (by kernel_rfl)) (sa_cons (se_mkk (c := 7) (mk x_InvalidText (by simp [xs]) (by intro y hy; cases hy <;> exact fun _ _ _ _ _ _ _ _ _ _ _ _ _ _ _ _ => ⟨rfl, rfl⟩)) fok1 hr (by decide) (gl_by (by kernel_rfl)) (gl "InvalidText" (by kernel_rfl)) (se_var (i := 2) rfl (vis_by (by kernel_rfl)) (by kernel_rfl) (by kernel_rfl)) (by kernel_rfl)) (sa_cons (se_mkk (c := 8) (mk x_InvalidSize (by simp [xs]) (by intro y hy; cases hy <;> exact fun _ _ _ _ _ _ _ _ _ _ _ _ _ _ _ _ => ⟨rfl, rfl⟩)) fok1 hr (by decide) (gl_by (by kernel_rfl)) (gl "InvalidSize" (by kernel_rfl)) (se_var (i := 2) rfl (vis_by (by kernel_rfl)) (by kernel_rfl) (by kernel_rfl)) (by kernel_rfl)) (sa_nil))))))))) (by rfl) (.inl rfl)) (ss_cons (ss_set (i := 3) nd rfl (loc_by (by kernel_rfl)) (se_op o_add kk_add (se_var (i := 3) rfl (vis_by (by kernel_rfl)) (by kernel_rfl) (by kernel_rfl)) (se_lst (sa_cons (se_mkk (c := 9) (mk x_NoPlan (by simp [xs]) (by intro y hy; cases hy <;> exact fun _ _ _ _ _ _ _ _ _ _ _ _ _ _ _ _ => ⟨rfl, rfl⟩)) fok1 hr (by decide) (gl_by (by kernel_rfl)) (gl "NoPlan" (by kernel_rfl)) (se_var (i := 2) rfl (vis_by (by kernel_rfl)) (by kernel_rfl) (by kernel_rfl)) (by kernel_rfl)) (sa_cons (se_mk (c := 10) (n := 1) (mk x_InvalidName (by simp [xs]) (by intro y hy; cases hy <;> exact fun _ _ _ _ _ _ _ _ _ _ _ _ _ _ _ _ => ⟨rfl, rfl⟩)) fok1 hr (by decide) (gl_by (by kernel_rfl)) (gl "InvalidName" (by kernel_rfl)) (sa_cons (se_var (i := 2) rfl (vis_by (by kernel_rfl)) (by kernel_rfl) (by kernel_rfl)) (sa_nil)) (by kernel_rfl)) (sa_cons (se_mkk (c := 11) (mk x_DuplicateName (by simp [xs]) (by intro y hy; cases hy <;> exact fun _ _ _ _ _ _ _ _ _ _ _ _ _ _ _ _ => ⟨rfl, rfl⟩)) fok1 hr (by decide) (gl_by (by kernel_rfl)) (gl "DuplicateName" (by kernel_rfl)) (se_var (i := 2) rfl (vis_by (by kernel_rfl)) (by kernel_rfl) (by kernel_rfl)) (by kernel_rfl)) (sa_cons (se_mkk (c := 12) (mk x_CapacityExceeded (by simp [xs]) (by intro y hy; cases hy <;> exact fun _ _ _ _ _ _ _ _ _ _ _ _ _ _ _ _ => ⟨rfl, rfl⟩)) fok1 hr (by decide) (gl_by (by kernel_rfl)) (gl "CapacityExceeded" (by kernel_rfl)) (se_var (i := 2) rfl (vis_by (by kernel_rfl)) (by kernel_rfl) (by kernel_rfl)) (by kernel_rfl)) (sa_cons (se_mk (c := 13) (n := 1) (mk x_InvalidLimit (by simp [xs]) (by intro y hy; cases hy <;> exact fun _ _ _ _ _ _ _ _ _ _ _ _ _ _ _ _ => ⟨rfl, rfl⟩)) fok1 hr (by decide) (gl_by (by kernel_rfl)) (gl "InvalidLimit" (by kernel_rfl)) (sa_cons (se_var (i := 2) rfl (vis_by (by kernel_rfl)) (by kernel_rfl) (by kernel_rfl)) (sa_nil)) (by kernel_rfl)) (sa_cons (se_mkk (c := 14) (mk x_InvalidCommand (by simp [xs]) (by intro y hy; cases hy <;> exact fun _ _ _ _ _ _ _ _ _ _ _ _ _ _ _ _ => ⟨rfl, rfl⟩)) fok1 hr (by decide) (gl_by (by kernel_rfl)) (gl "InvalidCommand" (by kernel_rfl)) (se_var (i := 2) rfl (vis_by (by kernel_rfl)) (by kernel_rfl) (by kernel_rfl)) (by kernel_rfl)) (sa_nil))))))))) (by rfl) (.inl rfl)) (ss_cons (ss_set (i := 3) nd rfl (loc_by (by kernel_rfl)) (se_op o_add kk_add (se_var (i := 3) rfl (vis_by (by kernel_rfl)) (by kernel_rfl) (by kernel_rfl)) (se_lst (sa_cons (se_mkk (c := 15) (mk x_InvalidPage (by simp [xs]) (by intro y hy; cases hy <;> exact fun _ _ _ _ _ _ _ _ _ _ _ _ _ _ _ _ => ⟨rfl, rfl⟩)) fok1 hr (by decide) (gl_by (by kernel_rfl)) (gl "InvalidPage" (by kernel_rfl)) (se_var (i := 2) rfl (vis_by (by kernel_rfl)) (by kernel_rfl) (by kernel_rfl)) (by kernel_rfl)) (sa_cons (se_mkk (c := 16) (mk x_UnknownName (by simp [xs]) (by intro y hy; cases hy <;> exact fun _ _ _ _ _ _ _ _ _ _ _ _ _ _ _ _ => ⟨rfl, rfl⟩)) fok1 hr (by decide) (gl_by (by kernel_rfl)) (gl "UnknownName" (by kernel_rfl)) (se_var (i := 2) rfl (vis_by (by kernel_rfl)) (by kernel_rfl) (by kernel_rfl)) (by kernel_rfl)) (sa_cons (se_mk0 (c := 17) (mk x_NothingLeft (by simp [xs]) (by intro y hy; cases hy <;> exact fun _ _ _ _ _ _ _ _ _ _ _ _ _ _ _ _ => ⟨rfl, rfl⟩)) fok0 hr (by decide) (gl_by (by kernel_rfl)) (gl "NothingLeft" (by kernel_rfl)) (by kernel_rfl)) (sa_nil)))))) (by rfl) (.inl rfl)) (ss_cons (ss_if (st_not (st_e (se_call f_law_same hr (by omega) tk (gl_by (by kernel_rfl)) (sa_cons (se_lc (t := .one 6) (own := [("_law_error", 6)]) rfl nd (si_list (se_var (i := 3) rfl (vis_by (by kernel_rfl)) (by kernel_rfl) (by kernel_rfl))) (blkOk_by (by kernel_rfl)) (fun _ _ _ _ _ => pg_name (i := 6) nd rfl (loc_by (by kernel_rfl)) (.inr (by kernel_rfl))) (fun _ _ _ _ _ => sts_nil) (fun _ _ _ _ _ => se_at hT (se_var (i := 6) rfl (vis_by (by kernel_rfl)) (by kernel_rfl) (by kernel_rfl))) (by decide)) (sa_cons (se_call0 f_law_tags hr (by omega) tk (gl_by (by kernel_rfl)) (by kernel_rfl)) (sa_nil))) (len_cons (len_cons (len_nil))) (by kernel_rfl)))) (ss_cons (ss_ret (se_bl)) (ss_nil)) (ss_nil)) (ss_cons (ss_set (i := 4) nd rfl (loc_by (by kernel_rfl)) (se_op o_add kk_add (se_lc (t := .one 6) (own := [("_law_error", 6)]) rfl nd (si_list (se_sl (se_var (i := 3) rfl (vis_by (by kernel_rfl)) (by kernel_rfl) (by kernel_rfl)) (so_none) (so_some (se_int)))) (blkOk_by (by kernel_rfl)) (fun _ _ _ _ _ => pg_name (i := 6) nd rfl (loc_by (by kernel_rfl)) (.inr (by kernel_rfl))) (fun _ _ _ _ _ => sts_nil) (fun _ _ _ _ _ => se_at hT (se_var (i := 6) rfl (vis_by (by kernel_rfl)) (by kernel_rfl) (by kernel_rfl))) (by decide)) (se_lst (sa_cons (se_at hT (se_ix o_ix kk_ix (se_var (i := 3) rfl (vis_by (by kernel_rfl)) (by kernel_rfl) (by kernel_rfl)) (se_int))) (sa_cons (se_at hT (se_ix o_ix kk_ix (se_var (i := 3) rfl (vis_by (by kernel_rfl)) (by kernel_rfl) (by kernel_rfl)) (se_int))) (sa_cons (se_at hT (se_ix o_ix kk_ix (se_var (i := 3) rfl (vis_by (by kernel_rfl)) (by kernel_rfl) (by kernel_rfl)) (se_int))) (sa_cons (se_at hT (se_ix o_ix kk_ix (se_var (i := 3) rfl (vis_by (by kernel_rfl)) (by kernel_rfl) (by kernel_rfl)) (se_int))) (sa_cons (se_at hT (se_ix o_ix kk_ix (se_var (i := 3) rfl (vis_by (by kernel_rfl)) (by kernel_rfl) (by kernel_rfl)) (se_int))) (sa_cons (se_at hT (se_ix o_ix kk_ix (se_var (i := 3) rfl (vis_by (by kernel_rfl)) (by kernel_rfl) (by kernel_rfl)) (se_int))) (sa_cons (se_at hT (se_ix o_ix kk_ix (se_var (i := 3) rfl (vis_by (by kernel_rfl)) (by kernel_rfl) (by kernel_rfl)) (se_int))) (sa_nil)))))))))) (by rfl) (.inl rfl)) (ss_cons (ss_set (i := 4) nd rfl (loc_by (by kernel_rfl)) (se_op o_add kk_add (se_var (i := 4) rfl (vis_by (by kernel_rfl)) (by kernel_rfl) (by kernel_rfl)) (se_lst (sa_cons (se_at hT (se_ix o_ix kk_ix (se_var (i := 3) rfl (vis_by (by kernel_rfl)) (by kernel_rfl) (by kernel_rfl)) (se_int))) (sa_cons (se_at hT (se_ix o_ix kk_ix (se_var (i := 3) rfl (vis_by (by kernel_rfl)) (by kernel_rfl) (by kernel_rfl)) (se_int))) (sa_cons (se_at hT (se_ix o_ix kk_ix (se_var (i := 3) rfl (vis_by (by kernel_rfl)) (by kernel_rfl) (by kernel_rfl)) (se_int))) (sa_cons (se_at hT (se_ix o_ix kk_ix (se_var (i := 3) rfl (vis_by (by kernel_rfl)) (by kernel_rfl) (by kernel_rfl)) (se_int))) (sa_nil))))))) (by rfl) (.inl rfl)) (ss_cons (ss_if (st_not (st_e (se_call f_law_same hr (by omega) tk (gl_by (by kernel_rfl)) (sa_cons (se_var (i := 4) rfl (vis_by (by kernel_rfl)) (by kernel_rfl) (by kernel_rfl)) (sa_cons (se_op o_mul kk_mul (se_lst (sa_cons (se_var (i := 2) rfl (vis_by (by kernel_rfl)) (by kernel_rfl) (by kernel_rfl)) (sa_nil))) (se_int)) (sa_nil))) (len_cons (len_cons (len_nil))) (by kernel_rfl)))) (ss_cons (ss_ret (se_bl)) (ss_nil)) (ss_nil)) (ss_cons (ss_for (t := .one 5) ps_fn rfl (si_range1 (gl_by (by kernel_rfl)) (fr "range" (by kernel_rfl)) (sa_cons (se_int) (sa_nil))) (pg_name (i := 5) nd rfl (loc_by (by kernel_rfl)) (.inl rfl)) (ss_cons (ss_set (i := 6) nd rfl (loc_by (by kernel_rfl)) (se_ix o_ix kk_ix (se_var (i := 3) rfl (vis_by (by kernel_rfl)) (by kernel_rfl) (by kernel_rfl)) (se_var (i := 5) rfl (vis_by (by kernel_rfl)) (by kernel_rfl) (by kernel_rfl))) (by rfl) (.inl rfl)) (ss_cons (ss_set (i := 7) nd rfl (loc_by (by kernel_rfl)) (se_lst (sa_cons (se_isC (d := 0) hT (gl_by (by kernel_rfl)) (fr "isinstance" (by kernel_rfl)) (gl_by (by kernel_rfl)) (gl "FoldError" (by kernel_rfl)) (se_var (i := 6) rfl (vis_by (by kernel_rfl)) (by kernel_rfl) (by kernel_rfl)) (by kernel_rfl)) (sa_cons (se_callB (id := "isinstance") call_isA (k_isi hT) (gl_by (by kernel_rfl)) (fr "isinstance" (by kernel_rfl)) (by kernel_rfl) (sa_cons (se_var (i := 6) rfl (vis_by (by kernel_rfl)) (by kernel_rfl) (by kernel_rfl)) (sa_cons (se_ty (T := "ValueError") (gl_by (by kernel_rfl)) (fr "ValueError" (by kernel_rfl)) (by kernel_rfl) (by decide +kernel) (by kernel_rfl)) (sa_nil))) (by decide +kernel) (by kernel_rfl)) (sa_cons (se_isC (d := 1) hT (gl_by (by kernel_rfl)) (fr "isinstance" (by kernel_rfl)) (gl_by (by kernel_rfl)) (gl "Missing" (by kernel_rfl)) (se_var (i := 6) rfl (vis_by (by kernel_rfl)) (by kernel_rfl) (by kernel_rfl)) (by kernel_rfl)) (sa_cons (se_callB (id := "isinstance") call_isA (k_isi hT) (gl_by (by kernel_rfl)) (fr "isinstance" (by kernel_rfl)) (by kernel_rfl) (sa_cons (se_var (i := 6) rfl (vis_by (by kernel_rfl)) (by kernel_rfl) (by kernel_rfl)) (sa_cons (se_ty (T := "LookupError") (gl_by (by kernel_rfl)) (fr "LookupError" (by kernel_rfl)) (by kernel_rfl) (by decide +kernel) (by kernel_rfl)) (sa_nil))) (by decide +kernel) (by kernel_rfl)) (sa_cons (se_callB (id := "isinstance") call_isA (k_isi hT) (gl_by (by kernel_rfl)) (fr "isinstance" (by kernel_rfl)) (by kernel_rfl) (sa_cons (se_var (i := 6) rfl (vis_by (by kernel_rfl)) (by kernel_rfl) (by kernel_rfl)) (sa_cons (se_ty (T := "IndexError") (gl_by (by kernel_rfl)) (fr "IndexError" (by kernel_rfl)) (by kernel_rfl) (by decide +kernel) (by kernel_rfl)) (sa_nil))) (by decide +kernel) (by kernel_rfl)) (sa_nil))))))) (by rfl) (.inl rfl)) (ss_cons (ss_set (i := 8) nd rfl (loc_by (by kernel_rfl)) (se_if (st_cmp op_lt k_lt (se_var (i := 5) rfl (vis_by (by kernel_rfl)) (by kernel_rfl) (by kernel_rfl)) (se_int) (nomark _)) (se_lst (sa_cons (se_bl) (sa_cons (se_bl) (sa_cons (se_bl) (sa_cons (se_bl) (sa_cons (se_bl) (sa_nil))))))) (se_if (st_cmp (o_eq hr) kk_eq (se_var (i := 5) rfl (vis_by (by kernel_rfl)) (by kernel_rfl) (by kernel_rfl)) (se_int) (nomark _)) (se_lst (sa_cons (se_bl) (sa_cons (se_bl) (sa_cons (se_bl) (sa_cons (se_bl) (sa_cons (se_bl) (sa_nil))))))) (se_lst (sa_cons (se_bl) (sa_cons (se_bl) (sa_cons (se_bl) (sa_cons (se_bl) (sa_cons (se_bl) (sa_nil))))))))) (by rfl) (.inl rfl)) (ss_cons (ss_if (st_cmp (o_ne hr) kk_ne (se_var (i := 7) rfl (vis_by (by kernel_rfl)) (by kernel_rfl) (by kernel_rfl)) (se_var (i := 8) rfl (vis_by (by kernel_rfl)) (by kernel_rfl) (by kernel_rfl)) (nomark _)) (ss_cons (ss_ret (se_bl)) (ss_nil)) (ss_nil)) (ss_cons (ss_if (st_cmp (o_ne hr) kk_ne (se_call f_law_kinds hr (by omega) tk (gl_by (by kernel_rfl)) (sa_cons (se_var (i := 6) rfl (vis_by (by kernel_rfl)) (by kernel_rfl) (by kernel_rfl)) (sa_nil)) (len_cons (len_nil)) (by kernel_rfl)) (se_lst (sa_cons (se_var (i := 5) rfl (vis_by (by kernel_rfl)) (by kernel_rfl) (by kernel_rfl)) (sa_nil))) (nomark _)) (ss_cons (ss_ret (se_bl)) (ss_nil)) (ss_nil)) (ss_nil))))))) (ss_cons (ss_ret (se_call f_law_same hr (by omega) tk (gl_by (by kernel_rfl)) (sa_cons (hwy) (sa_cons (se_tup (sa_cons (se_str) (sa_cons (se_non) (sa_nil)))) (sa_nil))) (len_cons (len_cons (len_nil))) (by kernel_rfl))) (ss_nil))))))))))))
end
end K57

set_option Elab.async false
set_option linter.all false
set_option maxRecDepth 100000
set_option maxHeartbeats 4000000
namespace K57
open PySem PySem.Spec PyProof.Rows L2 Mini RZ
theorem bnd_ok {α β : Type} {x : α} {M : Store} {k : α → Store → Res β} : (Res.ok x M).bnd k = k x M := rfl
theorem st_ok {α : Type} {x : α} {M : Store} {env : Env'} {k : α → Store → SR} : (Res.ok x M).st env k = k x M := rfl
theorem onB_bl {b : Bool} {f : Bool → Res MV} : onB (.bl b) f = f b := rfl
theorem onBS_bl {b : Bool} {f : Bool → SR} : onBS (.bl b) f = f b := rfl
/-- the bag: its cells at cl, the place, what is left of a great cell, the seed -/
structure Bag (M : Store) (b cl : Nat) (ys : List Int) (p d e : Int) : Prop where
  at_ : M[b]? = some (.lst [.ref cl, .int p, .int d, .int e])
  cells : M[cl]? = some (.lst (ys.map .int))
  p0 : 0 ≤ p
  d0 : 0 ≤ d
  e0 : 0 ≤ e
  e1 : e < 2147483543
theorem Bag.ne {M : Store} {b cl : Nat} {ys : List Int} {p d e : Int} (B : Bag M b cl ys p d e) : b ≠ cl := fun h => by
  have h1 := B.at_
  rw [h, B.cells] at h1
  cases ys <;> simp at h1
theorem Bag.set {M : Store} {b cl : Nat} {ys : List Int} {p d e : Int} (B : Bag M b cl ys p d e) {p' d' e' : Int} (h0 : 0 ≤ p') (h1 : 0 ≤ d') (h2 : 0 ≤ e') (h3 : e' < 2147483543) : Bag (M.set b (.lst [.ref cl, .int p', .int d', .int e'])) b cl ys p' d' e' := by
  have hb : b < M.length := (List.getElem?_eq_some_iff.mp B.at_).1
  exact ⟨by rw [List.getElem?_set_self hb], by rw [List.getElem?_set_ne B.ne]; exact B.cells, h0, h1, h2, h3⟩
/-- reading the bag -/
theorem rd {M : Store} {b cl : Nat} {ys : List Int} {p d e : Int} (B : Bag M b cl ys p d e) {env : Env'} {i : Nat} (he : env[i]? = some (some (.ref b))) :
    fBin gIx (fVar i) (fK (.int 0)) env M = .ok (.ref cl) M ∧ fBin gIx (fVar i) (fK (.int 1)) env M = .ok (.int p) M ∧ fBin gIx (fVar i) (fK (.int 2)) env M = .ok (.int d) M ∧ fBin gIx (fVar i) (fK (.int 3)) env M = .ok (.int e) M := by
  have h := B.at_
  refine ⟨?_, ?_, ?_, ?_⟩ <;>
  · unfold fBin fVar fK
    simp only [he, bnd_ok]
    unfold gIx gOr gIxL
    simp only [h]
    rfl
theorem wr {M : Store} {b cl : Nat} {ys : List Int} {p d e : Int} (B : Bag M b cl ys p d e) {env : Env'} (x : Int) :
    setI (.ref b) (.int 1) (.int x) env M = .nx env (M.set b (.lst [.ref cl, .int x, .int d, .int e])) ∧ setI (.ref b) (.int 2) (.int x) env M = .nx env (M.set b (.lst [.ref cl, .int p, .int x, .int e])) ∧ setI (.ref b) (.int 3) (.int x) env M = .nx env (M.set b (.lst [.ref cl, .int p, .int d, .int x])) := by
  have h := B.at_
  refine ⟨?_, ?_, ?_⟩ <;>
  · unfold setI
    simp only [h]
    rfl
/-! evaluation -/
section
variable {env : Env'} {M M1 M2 : Store} {v w z : MV}
theorem bin_ok {g : G2} {fa fb : EF} (h1 : fa env M = .ok v M1) (h2 : fb env M1 = .ok w M2) : fBin g fa fb env M = g v w M2 := by
  unfold fBin
  rw [h1, bnd_ok, h2, bnd_ok]
theorem k_ok {x : MV} : fK x env M = .ok x M := rfl
theorem var_ok {i : Nat} (h : env[i]? = some (some v)) : fVar i env M = .ok v M := by
  unfold fVar
  rw [h]
theorem int_ok {a : Int} {fa : EF} (h : fa env M = .ok (.int a) M1) : fAp gInt (fCons fa fNil) env M = .ok (.int a) M1 := by
  unfold fAp fCons
  rw [h]
  rfl
theorem add_ok {a b : Int} : gAdd (.int a) (.int b) M = .ok (.int (a + b)) M := rfl
theorem lt_ok {a b : Int} : gLtI (.int a) (.int b) M = .ok (.bl (decide (a < b))) M := rfl
theorem gt_ok {a b : Int} : gGtI (.int a) (.int b) M = .ok (.bl (decide (b < a))) M := rfl
theorem ge_ok {a b : Int} : gGeI (.int a) (.int b) M = .ok (.bl (decide (b ≤ a))) M := rfl
theorem eq_ok {a b : Int} : gEq (.int a) (.int b) M = .ok (.bl (decide (a = b))) M := by
  show Res.ok (MV.bl (decide (MV.int a = MV.int b))) M = _
  congr 2
  simp
theorem mul_ok {a b : Int} (h : cMul a b = true) : gMul (.int a) (.int b) M = .ok (.int (a * b)) M := by
  unfold gMul gOr gMulI gI
  simp only [h, if_true]
theorem cmR {a b : Int} (h1 : -(2 ^ 64) < b) (h2 : b < 2 ^ 64) : cMul a b = true := by
  unfold cMul
  rw [decide_eq_true h1, decide_eq_true h2]
  simp
theorem mod_ok {a b : Int} (h : 0 < b) : gModI (.int a) (.int b) M = .ok (.int (a % b)) M := by
  unfold gModI gI
  simp only [decide_eq_true h, if_true]
theorem div_ok {a b : Int} (h : 0 < b) (h2 : b < 1073741824) : gDivI (.int a) (.int b) M = .ok (.int (a / b)) M := by
  unfold gDivI gI
  simp only [decide_eq_true h, decide_eq_true h2, Bool.and_self, if_true]
theorem set_ok {i : Nat} {fa : EF} (h : fa env M = .ok v M1) : fSet i fa env M = .nx (env.set i (some v)) M1 := by
  unfold fSet
  rw [h]
  rfl
theorem setI_ok {fo fi fa : EF} (h1 : fa env M = .ok v M) (h2 : fo env M = .ok w M) (h3 : fi env M = .ok z M) : fSetI fo fi fa env M = setI w z v env M := by
  unfold fSetI
  rw [h1, st_ok, h2, st_ok, h3, st_ok]
theorem seq_ok {f g : SF} {e1 : Env'} (h : f env M = .nx e1 M1) : fSeq f g env M = g e1 M1 := by
  unfold fSeq
  rw [h]
theorem if_ok {ft : EF} {f g : SF} {b : Bool} (h : ft env M = .ok (.bl b) M1) : fIfS ft f g env M = bif b then f env M1 else g env M1 := by
  unfold fIfS
  rw [h]
  rfl
theorem and_ok {fa fb : EF} {a b : Bool} (h1 : fa env M = .ok (.bl a) M) (h2 : a = true → fb env M = .ok (.bl b) M) : fAnd fa fb env M = .ok (.bl (a && b)) M := by
  unfold fAnd
  rw [h1, bnd_ok, onB_bl]
  cases a with
  | true => rw [cond_true, h2 rfl]; rfl
  | false => rfl
theorem ret_ok {fa : EF} (h : fa env M = .ok v M1) : fRet fa env M = .rt v M1 := by
  unfold fRet
  rw [h]
  rfl
end
theorem pow_ok {env : Env'} {M : Store} : fBin gPowI (fK (.int 10)) (fK (.int 18)) env M = .ok (.int 1000000000000000000) M := by
  rw [bin_ok k_ok k_ok]
  rfl
theorem at_cell {M : Store} {cl : Nat} {ys : List Int} {p : Int} (hc : M[cl]? = some (.lst (ys.map .int))) (h0 : 0 ≤ p) (h1 : p < ys.length) : ∃ y, gIx (.ref cl) (.int p) M = .ok (.int y) M := by
  have hlt : p.toNat < ys.length := by omega
  refine ⟨ys[p.toNat], ?_⟩
  have e : L2.atI (ys.map MV.int) p = some (.int ys[p.toNat]) := by
    unfold L2.atI ixN
    simp [h0, hlt, h1]
  unfold gIx gOr gIxL
  simp only [hc, e]
theorem len_ok {env : Env'} {M : Store} {cl : Nat} {ys : List Int} {fa : EF} (hc : M[cl]? = some (.lst (ys.map .int))) (h : fa env M = .ok (.ref cl) M) : fAp gLen (fCons fa fNil) env M = .ok (.int ys.length) M := by
  unfold fAp fCons
  rw [h, bnd_ok]
  show gLen [.ref cl] M = _
  unfold gLen
  simp only [hc, List.length_map]
/-- one draw -/
theorem pull_ok {M : Store} {b cl : Nat} {ys : List Int} {p d e : Int} (B : Bag M b cl ys p d e) {z : Int} (hz : 0 < z) (hz2 : z < 1073741824) : ∃ i p' d' e', 0 ≤ i ∧ i < z ∧ 0 ≤ p' ∧ 0 ≤ d' ∧ 0 ≤ e' ∧ e' < 2147483543 ∧ g_law_pull [.ref b, .int z] M = .ok (.int i) (M.set b (.lst [.ref cl, .int p', .int d', .int e'])) := by
  -- the second part, of any bag
  have two : ∀ {M : Store} {p d e : Int} {c : Option MV}, Bag M b cl ys p d e → ∃ i d' e' env', 0 ≤ i ∧ i < z ∧ 0 ≤ d' ∧ 0 ≤ e' ∧ e' < 2147483543 ∧
      fSeq (fIfS (fBin gGtI (fBin gIx (fVar 0) (fK (.int 2))) (fK (.int 0))) (fSeq (fSet 4 (fBin gModI (fAp gInt (fCons (fBin gIx (fVar 0) (fK (.int 2))) (fNil))) (fVar 1))) (fSeq (fSetI (fVar 0) (fK (.int 2)) (fBin gDivI (fBin gIx (fVar 0) (fK (.int 2))) (fVar 1))) (fSeq (fRet (fVar 4)) (fSkip)))) (fSkip)) (fSeq (fSet 2 (fBin gIx (fVar 0) (fK (.int 3)))) (fSeq (fSetI (fVar 0) (fK (.int 3)) (fBin gModI (fAp gInt (fCons (fBin gAdd (fBin gAdd (fBin gMul (fVar 2) (fVar 2)) (fBin gMul (fVar 2) (fK (.int 28411)))) (fK (.int 1502011))) (fNil))) (fK (.int 2147483543)))) (fSeq (fRet (fBin gModI (fAp gInt (fCons (fBin gAdd (fBin gDivI (fBin gIx (fVar 0) (fK (.int 3))) (fK (.int 71))) (fBin gMul (fBin gModI (fAp gInt (fCons (fBin gIx (fVar 0) (fK (.int 3))) (fNil))) (fK (.int 7919))) (fK (.int 47)))) (fNil))) (fVar 1))) (fSkip)))) [some (.ref b), some (.int z), none, c, none] M
        = .rt (.int i) (M.set b (.lst [.ref cl, .int p, .int d', .int e'])) ∧ env' = () := by
    intro M p d e c B
    have v0 : ∀ {x : List (Option MV)}, ((some (MV.ref b)) :: x)[0]? = some (some (.ref b)) := rfl
    obtain ⟨r0, r1, r2, r3⟩ := rd B (env := [some (.ref b), some (.int z), none, c, none]) (i := 0) rfl
    by_cases hd : 0 < d
    · have hc : fBin gGtI (fBin gIx (fVar 0) (fK (.int 2))) (fK (.int 0)) [some (.ref b), some (.int z), none, c, none] M = .ok (.bl true) M := by
        rw [bin_ok r2 k_ok, gt_ok, decide_eq_true hd]
      refine ⟨d % z, d / z, e, (), Int.emod_nonneg _ (by omega), Int.emod_lt_of_pos _ hz, Int.ediv_nonneg B.d0 (by omega), B.e0, B.e1, ?_, rfl⟩
      unfold fSeq
      rw [if_ok hc, cond_true]
      have s1 : fSet 4 (fBin gModI (fAp gInt (fCons (fBin gIx (fVar 0) (fK (.int 2))) (fNil))) (fVar 1)) [some (.ref b), some (.int z), none, c, none] M = .nx [some (.ref b), some (.int z), none, c, some (.int (d % z))] M := by
        rw [set_ok (v := .int (d % z)) (M1 := M) (by rw [bin_ok (int_ok r2) (var_ok (v := .int z) rfl), mod_ok hz])]
        rfl
      obtain ⟨_, _, q2, _⟩ := rd B (env := [some (.ref b), some (.int z), none, c, some (.int (d % z))]) (i := 0) rfl
      have s2 : fSetI (fVar 0) (fK (.int 2)) (fBin gDivI (fBin gIx (fVar 0) (fK (.int 2))) (fVar 1)) [some (.ref b), some (.int z), none, c, some (.int (d % z))] M = .nx [some (.ref b), some (.int z), none, c, some (.int (d % z))] (M.set b (.lst [.ref cl, .int p, .int (d / z), .int e])) := by
        rw [setI_ok (v := .int (d / z)) (w := .ref b) (z := .int 2) (by rw [bin_ok q2 (var_ok (v := .int z) rfl), div_ok hz hz2]) (var_ok rfl) k_ok]
        exact (wr B (d / z)).2.1
      have s3 : ∀ {M' : Store}, fRet (fVar 4) [some (.ref b), some (.int z), none, c, some (.int (d % z))] M' = .rt (.int (d % z)) M' := fun {M'} => ret_ok (var_ok rfl)
      simp only [fSeq, s1, s2, s3]
    · have hc : fBin gGtI (fBin gIx (fVar 0) (fK (.int 2))) (fK (.int 0)) [some (.ref b), some (.int z), none, c, none] M = .ok (.bl false) M := by
        rw [bin_ok r2 k_ok, gt_ok, decide_eq_false hd]
      have h1 : fIfS (fBin gGtI (fBin gIx (fVar 0) (fK (.int 2))) (fK (.int 0))) (fSeq (fSet 4 (fBin gModI (fAp gInt (fCons (fBin gIx (fVar 0) (fK (.int 2))) (fNil))) (fVar 1))) (fSeq (fSetI (fVar 0) (fK (.int 2)) (fBin gDivI (fBin gIx (fVar 0) (fK (.int 2))) (fVar 1))) (fSeq (fRet (fVar 4)) (fSkip)))) (fSkip) [some (.ref b), some (.int z), none, c, none] M = .nx [some (.ref b), some (.int z), none, c, none] M := by
        rw [if_ok hc]
        rfl
      have s1 : fSet 2 (fBin gIx (fVar 0) (fK (.int 3))) [some (.ref b), some (.int z), none, c, none] M = .nx [some (.ref b), some (.int z), some (.int e), c, none] M := by
        rw [set_ok r3]
        rfl
      have e64 : e < 2 ^ 64 := Int.lt_trans B.e1 (by decide)
      have e64' : -(2 ^ 64) < e := Int.lt_of_lt_of_le (by decide) B.e0
      generalize hf : (e * e + e * 28411 + 1502011) % 2147483543 = e'
      have g0 : 0 ≤ e' := by rw [← hf]; exact Int.emod_nonneg _ (by decide)
      have g1 : e' < 2147483543 := by rw [← hf]; exact Int.emod_lt_of_pos _ (by decide)
      have s2 : fSetI (fVar 0) (fK (.int 3)) (fBin gModI (fAp gInt (fCons (fBin gAdd (fBin gAdd (fBin gMul (fVar 2) (fVar 2)) (fBin gMul (fVar 2) (fK (.int 28411)))) (fK (.int 1502011))) (fNil))) (fK (.int 2147483543))) [some (.ref b), some (.int z), some (.int e), c, none] M = .nx [some (.ref b), some (.int z), some (.int e), c, none] (M.set b (.lst [.ref cl, .int p, .int d, .int e'])) := by
        have ve : fVar 2 [some (.ref b), some (.int z), some (.int e), c, none] M = .ok (.int e) M := var_ok rfl
        have m1 : fBin gMul (fVar 2) (fVar 2) [some (.ref b), some (.int z), some (.int e), c, none] M = .ok (.int (e * e)) M := by rw [bin_ok ve ve, mul_ok (cmR e64' e64)]
        have m2 : fBin gMul (fVar 2) (fK (.int 28411)) [some (.ref b), some (.int z), some (.int e), c, none] M = .ok (.int (e * 28411)) M := by rw [bin_ok ve k_ok, mul_ok (cmR (by decide) (by decide))]
        have a1 : fBin gAdd (fBin gMul (fVar 2) (fVar 2)) (fBin gMul (fVar 2) (fK (.int 28411))) [some (.ref b), some (.int z), some (.int e), c, none] M = .ok (.int (e * e + e * 28411)) M := by rw [bin_ok m1 m2, add_ok]
        have a2 : fBin gAdd (fBin gAdd (fBin gMul (fVar 2) (fVar 2)) (fBin gMul (fVar 2) (fK (.int 28411)))) (fK (.int 1502011)) [some (.ref b), some (.int z), some (.int e), c, none] M = .ok (.int (e * e + e * 28411 + 1502011)) M := by rw [bin_ok a1 k_ok, add_ok]
        rw [setI_ok (v := .int e') (w := .ref b) (z := .int 3) (by rw [bin_ok (int_ok a2) k_ok, mod_ok (by decide), hf]) (var_ok rfl) k_ok]
        exact (wr B e').2.2
      have B2 : Bag (M.set b (.lst [.ref cl, .int p, .int d, .int e'])) b cl ys p d e' := B.set B.p0 B.d0 g0 g1
      obtain ⟨_, _, _, q3⟩ := rd B2 (env := [some (.ref b), some (.int z), some (.int e), c, none]) (i := 0) rfl
      refine ⟨(e' / 71 + e' % 7919 * 47) % z, d, e', (), Int.emod_nonneg _ (by omega), Int.emod_lt_of_pos _ hz, B.d0, g0, g1, ?_, rfl⟩
      have s3 : fRet (fBin gModI (fAp gInt (fCons (fBin gAdd (fBin gDivI (fBin gIx (fVar 0) (fK (.int 3))) (fK (.int 71))) (fBin gMul (fBin gModI (fAp gInt (fCons (fBin gIx (fVar 0) (fK (.int 3))) (fNil))) (fK (.int 7919))) (fK (.int 47)))) (fNil))) (fVar 1)) [some (.ref b), some (.int z), some (.int e), c, none] (M.set b (.lst [.ref cl, .int p, .int d, .int e'])) = .rt (.int ((e' / 71 + e' % 7919 * 47) % z)) (M.set b (.lst [.ref cl, .int p, .int d, .int e'])) := by
        refine ret_ok ?_
        have a1 := (bin_ok (g := gDivI) (fb := fK (.int 71)) q3 k_ok).trans (div_ok (a := e') (b := 71) (by decide) (by decide))
        have a2 := (bin_ok (g := gModI) (fb := fK (.int 7919)) (int_ok q3) k_ok).trans (mod_ok (a := e') (b := 7919) (by decide))
        have a3 := (bin_ok (g := gMul) (fb := fK (.int 47)) a2 k_ok).trans (mul_ok (cmR (by decide) (by decide)))
        have a4 := (bin_ok (g := gAdd) a1 a3).trans add_ok
        rw [bin_ok (int_ok a4) (var_ok (v := .int z) rfl), mod_ok hz]
      simp only [fSeq, h1, s1, s2, s3]
  have one : ∃ p' d' e' c, 0 ≤ p' ∧ 0 ≤ d' ∧ 0 ≤ e' ∧ e' < 2147483543 ∧
      fIfS (fAnd (fBin gEq (fBin gIx (fVar 0) (fK (.int 2))) (fK (.int 0))) (fBin gLtI (fBin gIx (fVar 0) (fK (.int 1))) (fAp gLen (fCons (fBin gIx (fVar 0) (fK (.int 0))) (fNil))))) (fSeq (fSet 3 (fBin gIx (fBin gIx (fVar 0) (fK (.int 0))) (fBin gIx (fVar 0) (fK (.int 1))))) (fSeq (fSetI (fVar 0) (fK (.int 1)) (fBin gAdd (fBin gIx (fVar 0) (fK (.int 1))) (fK (.int 1)))) (fSeq (fIfS (fBin gGeI (fVar 3) (fBin gPowI (fK (.int 10)) (fK (.int 18)))) (fSeq (fSetI (fVar 0) (fK (.int 2)) (fVar 3)) (fSkip)) (fSeq (fSetI (fVar 0) (fK (.int 3)) (fBin gModI (fAp gInt (fCons (fBin gAdd (fBin gAdd (fBin gMul (fBin gIx (fVar 0) (fK (.int 3))) (fK (.int 61813))) (fBin gMul (fBin gModI (fAp gInt (fCons (fVar 3) (fNil))) (fK (.int 2147482951))) (fK (.int 7411)))) (fK (.int 57))) (fNil))) (fK (.int 2147483543)))) (fSkip))) (fSkip)))) (fSkip) [some (.ref b), some (.int z), none, none, none] M
        = .nx [some (.ref b), some (.int z), none, c, none] (M.set b (.lst [.ref cl, .int p', .int d', .int e'])) := by
    obtain ⟨r0, r1, r2, r3⟩ := rd B (env := [some (.ref b), some (.int z), none, none, none]) (i := 0) rfl
    have hcnd := and_ok (env := [some (.ref b), some (.int z), none, none, none]) ((bin_ok (g := gEq) (fb := fK (.int 0)) r2 k_ok).trans eq_ok) fun _ => (bin_ok (g := gLtI) r1 (len_ok B.cells r0)).trans lt_ok
    rw [if_ok hcnd]
    cases hb : (decide (d = 0) && decide (p < (ys.length : Int))) with
    | false =>
      refine ⟨p, d, e, none, B.p0, B.d0, B.e0, B.e1, ?_⟩
      rw [cond_false]
      show SR.nx _ M = _
      have : M.set b (.lst [.ref cl, .int p, .int d, .int e]) = M := by
        have hlt := (List.getElem?_eq_some_iff.mp B.at_)
        rw [← hlt.2]
        exact List.set_getElem_self hlt.1
      rw [this]
    | true =>
      rw [cond_true]
      obtain ⟨hd, hp⟩ := Bool.and_eq_true_iff.mp hb
      have hp := of_decide_eq_true hp
      obtain ⟨y, hy⟩ := at_cell B.cells B.p0 hp
      have s1 : fSet 3 (fBin gIx (fBin gIx (fVar 0) (fK (.int 0))) (fBin gIx (fVar 0) (fK (.int 1)))) [some (.ref b), some (.int z), none, none, none] M = .nx [some (.ref b), some (.int z), none, some (.int y), none] M := by
        rw [set_ok (v := .int y) (M1 := M) (by rw [bin_ok r0 r1, hy])]
        rfl
      obtain ⟨_, q1, _, _⟩ := rd B (env := [some (.ref b), some (.int z), none, some (.int y), none]) (i := 0) rfl
      have B2 : Bag (M.set b (.lst [.ref cl, .int (p + 1), .int d, .int e])) b cl ys (p + 1) d e := B.set (by have := B.p0; omega) B.d0 B.e0 B.e1
      have s2 : fSetI (fVar 0) (fK (.int 1)) (fBin gAdd (fBin gIx (fVar 0) (fK (.int 1))) (fK (.int 1))) [some (.ref b), some (.int z), none, some (.int y), none] M = .nx [some (.ref b), some (.int z), none, some (.int y), none] (M.set b (.lst [.ref cl, .int (p + 1), .int d, .int e])) := by
        rw [setI_ok (v := .int (p + 1)) (w := .ref b) (z := .int 1) (by rw [bin_ok q1 k_ok, add_ok]) (var_ok rfl) k_ok]
        exact (wr B (p + 1)).1
      obtain ⟨_, _, _, t3⟩ := rd B2 (env := [some (.ref b), some (.int z), none, some (.int y), none]) (i := 0) rfl
      have hge := (bin_ok (env := [some (.ref b), some (.int z), none, some (.int y), none]) (M := M.set b (.lst [.ref cl, .int (p + 1), .int d, .int e])) (g := gGeI) (var_ok (i := 3) rfl) pow_ok).trans ge_ok
      by_cases hbig : (1000000000000000000 : Int) ≤ y
      · refine ⟨p + 1, y, e, some (.int y), by have := B.p0; omega, by omega, B.e0, B.e1, ?_⟩
        have s3 : fSetI (fVar 0) (fK (.int 2)) (fVar 3) [some (.ref b), some (.int z), none, some (.int y), none] (M.set b (.lst [.ref cl, .int (p + 1), .int d, .int e])) = .nx [some (.ref b), some (.int z), none, some (.int y), none] (M.set b (.lst [.ref cl, .int (p + 1), .int y, .int e])) := by
          rw [setI_ok (v := .int y) (w := .ref b) (z := .int 2) (var_ok rfl) (var_ok rfl) k_ok, (wr B2 y).2.1, List.set_set]
        have s4 := if_ok (f := fSeq (fSetI (fVar 0) (fK (.int 2)) (fVar 3)) fSkip) (g := fSeq (fSetI (fVar 0) (fK (.int 3)) (fBin gModI (fAp gInt (fCons (fBin gAdd (fBin gAdd (fBin gMul (fBin gIx (fVar 0) (fK (.int 3))) (fK (.int 61813))) (fBin gMul (fBin gModI (fAp gInt (fCons (fVar 3) (fNil))) (fK (.int 2147482951))) (fK (.int 7411)))) (fK (.int 57))) (fNil))) (fK (.int 2147483543)))) (fSkip)) hge
        rw [decide_eq_true hbig, cond_true] at s4
        rw [seq_ok s1, seq_ok s2]
        unfold fSeq at s4 ⊢
        rw [s4, s3]
        rfl
      · generalize hf : (e * 61813 + y % 2147482951 * 7411 + 57) % 2147483543 = e'
        have g0 : 0 ≤ e' := by rw [← hf]; exact Int.emod_nonneg _ (by decide)
        have g1 : e' < 2147483543 := by rw [← hf]; exact Int.emod_lt_of_pos _ (by decide)
        refine ⟨p + 1, d, e', some (.int y), by have := B.p0; omega, B.d0, g0, g1, ?_⟩
        have vy : fVar 3 [some (.ref b), some (.int z), none, some (.int y), none] (M.set b (.lst [.ref cl, .int (p + 1), .int d, .int e])) = .ok (.int y) (M.set b (.lst [.ref cl, .int (p + 1), .int d, .int e])) := var_ok rfl
        have a1 := (bin_ok (g := gMul) (fb := fK (.int 61813)) t3 k_ok).trans (mul_ok (cmR (by decide) (by decide)))
        have a2 := (bin_ok (g := gModI) (fb := fK (.int 2147482951)) (int_ok vy) k_ok).trans (mod_ok (by decide))
        have a3 := (bin_ok (g := gMul) (fb := fK (.int 7411)) a2 k_ok).trans (mul_ok (cmR (by decide) (by decide)))
        have a4 := (bin_ok (g := gAdd) (fb := fK (.int 57)) ((bin_ok (g := gAdd) a1 a3).trans add_ok) k_ok).trans add_ok
        have a5 := (bin_ok (g := gModI) (fb := fK (.int 2147483543)) (int_ok a4) k_ok).trans (mod_ok (by decide))
        rw [hf] at a5
        have s3 := (setI_ok (fo := fVar 0) (fi := fK (.int 3)) a5 (var_ok (v := .ref b) rfl) k_ok).trans (wr B2 e').2.2
        rw [List.set_set] at s3
        have s4 := if_ok (f := fSeq (fSetI (fVar 0) (fK (.int 2)) (fVar 3)) fSkip) (g := fSeq (fSetI (fVar 0) (fK (.int 3)) (fBin gModI (fAp gInt (fCons (fBin gAdd (fBin gAdd (fBin gMul (fBin gIx (fVar 0) (fK (.int 3))) (fK (.int 61813))) (fBin gMul (fBin gModI (fAp gInt (fCons (fVar 3) (fNil))) (fK (.int 2147482951))) (fK (.int 7411)))) (fK (.int 57))) (fNil))) (fK (.int 2147483543)))) (fSkip)) hge
        rw [decide_eq_false hbig, cond_false] at s4
        rw [seq_ok s1, seq_ok s2]
        unfold fSeq at s4 ⊢
        rw [s4, s3]
        rfl
  obtain ⟨p', d', e', c, h1, h2, h3, h4, h5⟩ := one
  obtain ⟨i, d'', e'', _, j1, j2, j3, j4, j5, j6, _⟩ := two (c := c) (B.set h1 h2 h3 h4)
  refine ⟨i, p', d'', e'', j1, j2, h1, j3, j4, j5, ?_⟩
  rw [List.set_set] at j6
  show (match fb_law_pull [some (.ref b), some (.int z), none, none, none] M with
    | .rt v M1 => Res.ok v M1
    | .nx _ M1 => .ok .non M1
    | .ex _ c fs M1 => .ex c fs M1
    | _ => .no) = _
  unfold fb_law_pull
  rw [seq_ok h5, j6]
end K57

set_option Elab.async false
set_option linter.all false
set_option maxRecDepth 100000
set_option maxHeartbeats 4000000
namespace K57
open PySem PySem.Spec PyProof.Rows L2 Mini RZ
def good : SR → Bool
  | .rt (.bl true) _ => true
  | _ => false
/-- the law's table of code objects -/
abbrev tT0 : MO := .tab 1000 "law.<locals>.<lambda>"
def someV : List MV := [.non, .int 0, .int (0 - 7), .str "x", .bl true, .ref 5, .int 10000000000000000000000000, .str ""]
def st (xs cs : List MV) (p d e : Int) : Store := [.rl xs, tT0, .lst cs, .lst cs, .lst [.ref 3, .int p, .int d, .int e], .tup [.int 1, .int 2], .lst someV]
theorem bag_ok (xs : List MV) : g_law_bag [.ref 0] [.rl xs, tT0] = .ok (.ref 4) [.rl xs, tT0, .lst (cut' xs none (some 63)), .lst (cut' xs none (some 63)), .lst [.ref 3, .int 0, .int 0, .int 5622]] := by
  rfl
theorem cut_map (ns : List Int) (lo hi : Option Int) : ∃ ys : List Int, cut' (ns.map .int) lo hi = ys.map .int := by
  unfold cut'
  exact ⟨_, by rw [← List.map_drop, ← List.map_take]⟩
theorem of_ok (xs : List MV) (ys : List Int) : ∃ i p d e, 0 ≤ i ∧ i < 8 ∧ g_law_of [.ref 4, .ref 6] (st xs (ys.map .int) 0 0 5622) = gIx (.ref 6) (.int i) (st xs (ys.map .int) p d e) := by
  have B : Bag (st xs (ys.map .int) 0 0 5622) 4 3 ys 0 0 5622 := ⟨rfl, rfl, by decide, by decide, by decide, by decide⟩
  obtain ⟨i, p, d, e, h1, h2, _, _, _, _, h⟩ := pull_ok B (z := 8) (by decide) (by decide)
  refine ⟨i, p, d, e, h1, h2, ?_⟩
  have hl : fAp g_law_pull (fCons (fVar 0) (fCons (fAp gLen (fCons (fVar 1) fNil)) fNil)) [some (.ref 4), some (.ref 6)] (st xs (ys.map .int) 0 0 5622) = .ok (.int i) (st xs (ys.map .int) p d e) := h
  have hb := bin_ok (env := [some (.ref 4), some (.ref 6)]) (g := gIx) (fa := fVar 1) (var_ok (v := .ref 6) rfl) hl
  show (match fb_law_of [some (.ref 4), some (.ref 6)] (st xs (ys.map .int) 0 0 5622) with
    | .rt v M1 => Res.ok v M1
    | .nx _ M1 => .ok .non M1
    | .ex _ c fs M1 => .ex c fs M1
    | _ => .no) = _
  unfold fb_law_of fSeq fRet
  rw [hb]
  cases gIx (.ref 6) (.int i) (st xs (ys.map .int) p d e) <;> rfl
theorem ix_ok {i : Int} (h1 : 0 ≤ i) (h2 : i < 8) (xs cs : List MV) (p d e : Int) : ∃ v ∈ someV, gIx (.ref 6) (.int i) (st xs cs p d e) = .ok v (st xs cs p d e) := by
  have : i = 0 ∨ i = 1 ∨ i = 2 ∨ i = 3 ∨ i = 4 ∨ i = 5 ∨ i = 6 ∨ i = 7 := by omega
  rcases this with rfl | rfl | rfl | rfl | rfl | rfl | rfl | rfl
  · exact ⟨.non, by simp [someV], rfl⟩
  · exact ⟨.int 0, by simp [someV], rfl⟩
  · exact ⟨.int (0 - 7), by simp [someV], rfl⟩
  · exact ⟨.str "x", by simp [someV], rfl⟩
  · exact ⟨.bl true, by simp [someV], rfl⟩
  · exact ⟨.ref 5, by simp [someV], rfl⟩
  · exact ⟨.int 10000000000000000000000000, by simp [someV], rfl⟩
  · exact ⟨.str "", by simp [someV], rfl⟩
theorem law_good (ns : List Int) : good (fb_law [some (.ref 0), none, none, none, none, none, none, none, none] [.rl (ns.map .int), tT0]) = true := by
  obtain ⟨ys, hy⟩ := cut_map ns none (some 63)
  have s1 : fSet 1 (fAp g_law_bag (fCons (fVar 0) (fNil))) [some (.ref 0), none, none, none, none, none, none, none, none] [.rl (ns.map .int), tT0] = .nx [some (.ref 0), some (.ref 4), none, none, none, none, none, none, none] [.rl (ns.map .int), tT0, .lst (ys.map .int), .lst (ys.map .int), .lst [.ref 3, .int 0, .int 0, .int 5622]] := by
    rw [set_ok (v := .ref 4) (M1 := [.rl (ns.map .int), tT0, .lst (ys.map .int), .lst (ys.map .int), .lst [.ref 3, .int 0, .int 0, .int 5622]])]
    · rfl
    · have := bag_ok (ns.map .int)
      rw [hy] at this
      exact this
  obtain ⟨i, p, d, e, h1, h2, ho⟩ := of_ok (ns.map .int) ys
  obtain ⟨v, hv, hi⟩ := ix_ok h1 h2 (ns.map .int) (ys.map .int) p d e
  rw [hi] at ho
  have s2 : fSet 2 (fAp g_law_of (fCons (fVar 1) (fCons (fLst (fCons (fK .non) (fCons (fK (.int 0)) (fCons (fBin gSubI (fK (.int 0)) (fK (.int 7))) (fCons (fK (.str "x")) (fCons (fK (.bl true)) (fCons (fTup (fCons (fK (.int 1)) (fCons (fK (.int 2)) (fNil)))) (fCons (fBin gPowI (fK (.int 10)) (fK (.int 25))) (fCons (fK (.str "")) (fNil)))))))))) (fNil))))
      [some (.ref 0), some (.ref 4), none, none, none, none, none, none, none] [.rl (ns.map .int), tT0, .lst (ys.map .int), .lst (ys.map .int), .lst [.ref 3, .int 0, .int 0, .int 5622]] = .nx [some (.ref 0), some (.ref 4), some v, none, none, none, none, none, none] (st (ns.map .int) (ys.map .int) p d e) := by
    rw [set_ok (v := v) (M1 := st (ns.map .int) (ys.map .int) p d e)]
    · rfl
    · exact ho
  unfold fb_law
  rw [seq_ok s1, seq_ok s2]
  generalize ns.map MV.int = xs
  generalize ys.map MV.int = cs
  simp only [someV, List.mem_cons, List.not_mem_nil, or_false] at hv
  rcases hv with rfl | rfl | rfl | rfl | rfl | rfl | rfl | rfl
  · kernel_rfl
  · kernel_rfl
  · kernel_rfl
  · kernel_rfl
  · kernel_rfl
  · kernel_rfl
  · kernel_rfl
  · kernel_rfl
end K57

set_option Elab.async false
set_option linter.all false
set_option maxRecDepth 100000
set_option maxHeartbeats 0
namespace K57
open PySem PySem.Spec PyProof.Rows L2 Mini RZ
section
variable {w : World} {K : PySem.W.Frag} {mg : Str → Option Value} {base h h' : Heap}
theorem hyp (X : K.In h) (G : h.Ns mainGlobals mg) (c : SaysM fa fn tf ex h' K) : Hyp w K mg base := by
  obtain ⟨h1, h0⟩ := He.ba (show (D.chk K && (xs.all (fun x => x.chk P K D) && mtB K)) = true from c.more)
  obtain ⟨h2, h3⟩ := He.ba h0
  have fr : ∀ x : Str, frB.contains x = true → mg x = none := fun x hx => He.free_ok X G (c.d.facts (f := .free x) (List.mem_append_right _ (List.mem_append_left _ (List.mem_map_of_mem (List.contains_iff_mem.mp hx)))))
  exact ⟨fun x hx => He.glo_ok X G (c.d.facts (f := .glo x) (List.mem_append_left _ (List.mem_map_of_mem (List.contains_iff_mem.mp hx)))), fr, ClsD.ok h1,
    fun x hx hb => XcD.ok (k := 0) (List.all_eq_true.mp h2 x hx) (fr "super" (by kernel_rfl)) hb⟩
theorem defs (c : SaysM fa fn tf ex h' K) {d : He.DefD} (hd : d ∈ fn) : ∃ fd, FunD K d.name d.qual d.params d.body d.scope (d.dvs K) (d.kws K) (He.fAd K d.at_) fd := c.d.defs hd
theorem tab_eq : D.C K 1000 = (He.cT K ("law", none)).2 := rfl
theorem law_fn (c : SaysM fa fn tf ex h' K) (hy : Hyp w K mg base) (TB : LamX.TabB base mg (He.codeOf K ("law", none)) (D.C K 1000)) {fd : FuncData} (F : FunD K "law" "law" (defArgs s_law) (defBody s_law) (defScope s_law) [] [] (He.fAd K ("law", none)) fd) : FnOk P w K mg base (L2.CX P w) 20 (He.fAd K ("law", none)) fd ["_law_script"] (spF (D.C K) g_law 1) := by
  have d := fun (x : Str) (st : Stmt) (hd : dOf x st ∈ fn) => defs c hd
  have f1 := ok_law_bag hy (d "_law_bag" s_law_bag (by simp [fn]))
  have f2 := ok_law_pull hy (d "_law_pull" s_law_pull (by simp [fn]))
  have f3 := ok_law_of hy f2 (d "_law_of" s_law_of (by simp [fn]))
  have f4 := ok_law_tags hy (d "_law_tags" s_law_tags (by simp [fn]))
  have f5 := ok_law_kinds hy (d "_law_kinds" s_law_kinds (by simp [fn]))
  have f6 := ok_law_same hy (d "_law_same" s_law_same (by simp [fn])) 6
  have f7 := ok_law_field hy (d "_law_field" s_law_field (by simp [fn]))
  have f8 := ok_need_folks hy (d "need_folks" s_need_folks (by simp [fn]))
  obtain ⟨_, h0⟩ := He.ba (show (D.chk K && (xs.all (fun x => x.chk P K D) && mtB K)) = true from c.more)
  obtain ⟨_, h3⟩ := He.ba h0
  have MK : Mk K (He.ga K "Scheme") (He.fAd K ("Scheme", some "__init__")) := He.mkr_ok (c.d.facts (f := .mkr "Scheme") (List.mem_append_right _ (List.mem_append_right _ List.mem_cons_self)))
  exact ok_law hy f1 f3 f4 f5 f6 (fun A outer s H E hr => why_pe hy h3 f7 f8 (d "_law_why" s_law_why (by simp [fn])) (defs c (d := d_init) (by simp [fn])) MK TB (hr.mono (by decide))) F
/-- what the law's def promises to its caller -/
def spW (K : PySem.W.Frag) : Sp := fun vs H Q _ => spF (D.C K) g_law 1 vs H Q fun _ _ _ => False
theorem spW_ok (nol : ∀ a o, K.lookup a = some o → isL o = false) (H : Hp) (a : Addr) (ns : List Int) (hT : H (D.C K 1000) = some (.tbl #[])) (hS : SqL K H a (ns.map V.int)) : spW K [.ref a] H (fun v _ => v = .bl true) fun _ _ _ => False := by
  have ho := script_rd nol hS
  have ne : a ≠ D.C K 1000 := fun z => by
    rcases ho with q | ⟨o, q⟩ <;> rw [z, hT] at q <;> cases q
  have vi : ∀ l : List Int, VRs [a, D.C K 1000] (l.map MV.int) (l.map V.int) := fun l => by
    induction l with
    | nil => exact .nil
    | cons i l ih => exact .cons rfl ih
  refine ⟨rfl, [a, D.C K 1000], [.ref 0], [.rl (ns.map .int), tT0], .cons ⟨a, rfl, rfl⟩ .nil, ⟨rfl, by simp [ne], fun i b ob e1 e2 => ?_⟩, ?_⟩
  · match i with
    | 0 =>
      cases e1
      cases e2
      exact ⟨ns.map V.int, vi ns, ho⟩
    | 1 =>
      cases e1
      cases e2
      exact ⟨rfl, LamX.TabS.nil hT⟩
    | i + 2 => simp at e1
  · have hg := law_good ns
    show Out _ _ _ (match fb_law [some (.ref 0), none, none, none, none, none, none, none, none] [.rl (ns.map .int), tT0] with
      | .rt v M1 => Res.ok v M1
      | .nx _ M1 => .ok .non M1
      | .ex _ c fs M1 => .ex c fs M1
      | _ => .no) _
    unfold good at hg
    split at hg
    · rename_i M1 hz
      rw [hz]
      exact fun r' H' _ _ u hu => hu
    · cases hg
end
end K57
open PySem PySem.W PySem.Calls PyProof.Rows
theorem PySem.Challenge.cw_folkfold_k57_families_of_errors_holds : PySem.Challenge.rw_folkfold_k57_families_of_errors.Holds := by
  w_on; o_law
  refine HandSHeadRun.head_any (r := OpenLaw.row PySem.Challenge.rw_folkfold_k57_families_of_errors) (q := view (OpenLaw.row PySem.Challenge.rw_folkfold_k57_families_of_errors).prog [76]) (H := K57.hk) (ob := K57.ob) (M := 7000) (loose := K57.loose) (d := HandSHeadRun.topDef (OpenLaw.row PySem.Challenge.rw_folkfold_k57_families_of_errors).prog 76) (kwd := []) K57.ob_eq
    (by kernel_rfl) (fun s => by kernel_rfl) K57.run (by kernel_rfl) (by kernel_rfl) (by kernel_rfl) (by rfl) (by first | assumption | decide +kernel) (by decide +kernel) ⟨rfl, rfl, rfl, rfl, rfl, by decide +kernel⟩ ?hw ?hc
  case hw => w_witness2
  case hc =>
    refine LamX.walk_ofTsE (l := PySem.Challenge.rw_folkfold_k57_families_of_errors) (n := 63) (k := 20) (x := "_law_script") (CX := fun _ => L2.CX0) rfl (by decide) (by kernel_rfl) ⟨rfl, by decide, by decide⟩ ?F (fun _ _ _ _ _ z => z)
    intro w mg fa h Y G hmg0
    obtain ⟨K, KX, c⟩ := Y
    have hmg : mg ("law" : PySem.Str) = some (.ref fa) := by
      have e : (HandSHeadRun.topDef (OpenLaw.row PySem.Challenge.rw_folkfold_k57_families_of_errors).prog 76).name = ("law" : PySem.Str) := by kernel_rfl
      rw [← e]
      exact hmg0
    obtain ⟨fd0, F0⟩ := K57.defs c (d := Mini.dOf "law" K57.s_law) (by simp [K57.fn])
    have efa : fa = He.fAd K ("law", none) := by
      have hy : K57.Hyp w K mg h := K57.hyp KX G c
      have e := hmg.symm.trans (hy.gl "law" (by kernel_rfl))
      cases e
      rfl
    subst efa
    have b := L2.FunD.bindsA (ps := ["_law_script"]) F0 fun _ _ _ _ _ _ us hl => match us, hl with | [_], _ => rfl
    have mem : (("law", none) : He.Defn) ∈ K57.tf := List.mem_cons_self
    have one : ∀ {p : Addr × Addr}, p ∈ [He.cT K ("law", none)] → p = He.cT K ("law", none) := fun hp => List.mem_singleton.mp hp
    refine ⟨K, KX, fd0, [He.cT K ("law", none)], K57.spW K, fun p hp => by rw [one hp]; exact c.empty _ mem, fun p hp => by rw [one hp]; exact c.out _ mem, fun p hp => by rw [one hp]; exact codeHd_of_K KX (c.hd _ mem), fun s v => b s [v] rfl, fun H a ns hl _ hT hS => K57.spW_ok c.nol H a ns (hT _ List.mem_cons_self) hS, fun base KB GB hTB => ?_⟩
    exact Mini.FnOk.calm (K57.law_fn (w := w) c (K57.hyp (base := base) KB GB c) (hTB _ List.mem_cons_self) F0)

