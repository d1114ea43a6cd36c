import PyProof.Rows.All
import Wide.All
import OpenK.AllK
import Wide.FinOn
import PySem.Challenge.RW_nojumpsleft_k10_errors_each_its_own
import HandS.ForMost
import HandS.WordsExc
import HandS.Defaults
import HandS.ExcOwn
import HandS.HeadEnd
import HandS.ExcInit
import KE.KExcSuper
import HandS.Slots
import HandS.ExcField
import HandS.ExcIs
import KE.DataEq
import PyProof.ReprRoads
import HandS.ForExc
import HandS.TupAny
import HandS.IsInst
import HandS.Rev
import HandS.RevTup
import HandS.TupMul
import HandS.Style
import HandS.Text
import HandS.More
import PyProof.AutoSeq1
import HandS.Flow
import HandS.Star
import HandS.Conv
import PyProof.ExcRepr
import PyProof.ExcStrAll.ValueError
import HandS.Zip
import HandS.Iter
import PyProof.Draws
import HandS.Walk
import HandS.Comp
import HandS.DictComp
import HandS.HeadHook4
import HandS.Head0
import HandS.Head1
import HandS.Head2
import KE.KStateDown
set_option Elab.async false
set_option linter.all false
set_option maxRecDepth 100000
set_option maxHeartbeats 2000000
namespace EV
open PySem PySem.Spec L2
open PyProof.Rows hiding St
/-! ### a def's promise where no repr is under way -/
structure FnG (P : Program) (w : World) (K : PySem.W.Frag) (mg : Str → Option Value) (base : Heap) (k : Nat) (f : Addr) (fd : FuncData) (ps : List Str) (sp : L2.Sp) : Prop where
  len : ∀ vs H Q E, sp vs H Q E → vs.length = ps.length
  run : ∀ (A : Around) (outer : List PySem.Env) (s : Shared) (H : Hp) (args : Args) (us : List Value) (vs : List V) (Q : VK) (E : XK), A.guards = some [] → Room k A → Env0 P w K mg base A outer s H → BindsTo s fd args (ps.zip us) → Vals vs us → sp vs H Q E →
    codeAny (model P w) A (.call (.ref f) args) (CR (CX P w) outer P w H s Q E) s
section
variable {P : Program} {w : World} {K : PySem.W.Frag} {mg : Str → Option Value} {base : Heap} {nm qual : Str} {params : Arguments} {body : List Stmt} {scope : Scope} {f : Addr} {fd : FuncData} {N ps : List Str} {k : Nat} {sp : L2.Sp}
theorem fnG_of (F : FunD K nm qual params body scope [] [] f fd) (S : FnScope N ps scope) (hl : ∀ vs H Q E, sp vs H Q E → vs.length = ps.length)
    (hB : ∀ (cdv : Value) (A : Around) (outer : List PySem.Env) (s : Shared) (H : Hp) (vs : List V) (Q : VK) (E : XK), A.guards = some [] → Room k (A.deeper (envOfC qual scope s.heap.objs.size f cdv)) → sp vs H Q E →
      ∃ t, PSs (cxOf (CX P w) P w K mg base N qual scope f cdv A outer s H E) body t ∧ t { nx := fun _ H' => Q .non H', rt := Q } (start N vs) H) : FnG P w K mg base (k + 1) f fd ps sp := by
  obtain ⟨oc, od, dV, kV, doc, pm, an, cdv, ct, osl, rfl, lk, hcd, _, _⟩ := F.ex
  constructor
  · exact hl
  intro A outer s H args us vs Q E hgu hr e0 hb r hsp
  have n1 := hl vs H Q E hsp
  have kb : ∀ b o, base.get? b = some o → s.heap.get? b = some o := fun b o e => (e0.bs b o e).1
  have kx : K.In s.heap := e0.mod.kin.keeps kb
  refine codeAny_call_function hr.depth (kx _ _ lk) rfl S.co S.gen rfl (PySem.W.codeRec_of kx hcd) (hb _ _ _ _ (wpAny_newFunctionEnv_cells S.kind (fun y hy => ?_) fun env he s1 x => ?_))
  · rcases S.par y.1 (List.of_mem_zip (b := y.2) hy).1 with q | q
    · exact Or.inl q
    · exact Or.inr ⟨q, PySem.W.cellsFrom_some _ _ _ (Or.inl q)⟩
  subst he
  obtain ⟨t, ht, hq⟩ := hB cdv A outer s H vs Q E hgu (hr.deeper _) hsp
  have I : L2.Inv (cxOf (CX P w) P w K mg base N qual scope f cdv A outer s H E) [] (start N vs) H s1 := inv_start S hr.hd e0 n1 r x
  refine ⟨(e0.mod.nolimit.keeps kb).keeps x.toInCall.keep, codeAny_func (wpAny_mono (ht.run [] s1 _ H _ I hq) (fun fl s' hs => ?_) fun _ _ z => z)⟩
  rcases fl with _ | _ | _ | u
  all_goals first
    | (obtain ⟨σ', H', J, q⟩ := hs; exact ⟨V.non, H', J.os, J.bare, J.base, J.hok, rfl, q⟩)
    | (obtain ⟨v, σ', H', J, rv, q⟩ := hs; exact ⟨v, H', J.os, J.bare, J.base, J.hok, rv, q⟩)
    | (obtain ⟨_, _, _, q⟩ := hs; exact False.elim q)
    | skip
end
section
variable {X : Cx} {pins : List (Addr × Obj)} {σ : L2.St} {H : Hp} {s : Shared} {Q : VK} {us : List Value} {vs : List V} {k : Nat} {f : Addr} {fd : FuncData} {ps : List Str} {sp : L2.Sp} {E : L2.St → XK} {x : Str} {e : Expr} {es : List Expr} {t : TA} {p pos : Pos}
theorem run_fnG (F : FnG X.prog X.w X.K X.mg X.base k f fd ps sp) (gu : X.A.guards = some []) (hr : Room k X.A) (hb : Binds X.K fd ps []) (hx : PassesAt (CX X.prog X.w) X σ (E σ)) (I : L2.Inv X pins σ H s) (r : Vals vs us)
    (h : sp vs H Q (E σ)) : wpAny (model X.prog X.w) X.A (call (.ref f) us) (EP X pins σ Q) X.xe s := by
  have n1 : us.length = ps.length := r.length.symm.trans (F.len vs H Q _ h)
  have b := hb s us I.kIn (by rw [List.append_nil, n1])
  rw [List.append_nil] at b
  refine wpAny_call (codeAny_mono (F.run X.A X.stack s H ⟨us, []⟩ us vs Q (E σ) gu hr I.env0 b r h) fun y s' z => ?_)
  rcases y with er | fl
  · exact hx pins H s er s' I z
  · rcases fl with _ | _ | _ | u
    all_goals first
      | exact I.after z
      | exact False.elim z
theorem pe_callG (F : FnG X.prog X.w X.K X.mg X.base k f fd ps sp) (gu : X.A.guards = some []) (hr : Room k X.A) (hg : Gl X x) (hm : X.mg x = some (.ref f)) (hk : PySem.W.keepIn X.K (.ref f) = true) (hb : Binds X.K fd ps []) (hx : ∀ σ, PassesAt (CX X.prog X.w) X σ (E σ))
    (ha : PA X (e :: es) t) (hdb : (x == ("__debug__" : Str)) = false) (he : starEach (e :: es) X.env = (false, eval e X.env) :: starEach es X.env) (hpl : (backTo pos (starEach es X.env)).any (·.1) = false) :
    PE X (.Call (.Name x p) (e :: es) [] pos) (tCallS sp E t) := by
  constructor
  intro pins s σ H Q I h
  refine wpAny_Call_Name_kw (ld_glob I hg hm (PySem.W.callWith_K (h₀ := X.base) I.ok.mod.kin hk (thn (ha.run pos pins s σ H _ I h) fun us s1 z => ?_) he hpl) hdb)
  obtain ⟨vs, H1, I1, r, q⟩ := z
  exact ⟨I1.kIn, run_fnG F gu hr hb (hx σ) I1 r q⟩
end
end EV
set_option Elab.async false
set_option linter.all false
set_option maxRecDepth 100000
set_option maxHeartbeats 2000000
namespace EV
open PySem PySem.Spec L2
open PyProof.Rows hiding St
/-! ### an own error whose __init__ says super().__init__(value), self.value = value -/
/-- what the written part says of the error class C; its __init__ stands in D -/
structure JExc (prog : Program) (K : PySem.W.Frag) (C : Addr) : Prop where
  T : OexC K C
  ex : ∃ (D fI cda cc : Addr) (qual : Str) (params : Arguments) (body : List Stmt) (scope : Scope) (dV kV doc pm ct oc ccl cl : Value) (an od cdd cld : Option Addr) (osl ccs csl : Array (Option Value)) (vs : Array Value) (file : Str) (tf : Tok)
    (cdD cdC : ClassData) (p0 p1 p2 p3 p4 p5 p6 p7 p8 p9 : Pos) (ar : Arg),
    PySem.W.findIn K (.ref C) "__init__" = some (some (.ref fI)) ∧ PySem.W.typeIn K (.ref fI) = some (.type "function") ∧
    K.lookup fI = some ⟨oc, od, .func (PySem.W.ksFn "__init__" qual params body scope dV kV doc pm an (.ref cda) ct cc), osl⟩ ∧ PySem.W.codeIn K (.ref cda) qual = true ∧
    K.lookup cda = some ⟨ccl, cdd, .fields vs, ccs⟩ ∧ vs[2]? = some (.str file tf) ∧ ((prog.main.file : Str) == file) = true ∧
    K.lookup cc = some ⟨cl, cld, .cell (some (.ref D)), csl⟩ ∧ PySem.W.clsIn K D = some cdD ∧ PySem.W.mroIn K C (.ref D) = some true ∧
    PySem.W.clsIn K C = some cdC ∧ PySem.W.alongIn K "__init__" ((cdC.mro.dropWhile (· != .ref D)).drop 1) = some (some (.builtin "ValueError.__init__")) ∧ PySem.W.subIn K (.ref C) (.type "ValueError") = some true ∧
    PySem.W.nsIn K cStatics "thirdparty.any" = some none ∧ PySem.W.findIn K (.ref C) "value" = some none ∧
    body = [.Expr (.Call (.Attribute (.Call (.Name "super" p0) [] [] p1) "__init__" p2) [.Name "value" p3] [] p4) p5, .Assign [.Attribute (.Name "self" p6) "value" p7] (.Name "value" p8) p9] ∧
    scope.names.lookup ("super" : Str) = some .globalImplicit ∧ scope.names.lookup ("__class__" : Str) = some .free ∧ scope.names.lookup ("self" : Str) = some .local ∧ scope.names.lookup ("value" : Str) = some .local ∧
    (∀ x ∈ scope.names, x.2 ≠ .cell) ∧ scope.isCoroutine = false ∧ scope.isGenerator = false ∧ scope.kind = .function ∧
    (params.posonlyargs ++ params.args).head? = some ar ∧ ar.arg = "self" ∧ (prog.main.scope.names.lookup ("super" : Str)).isSome = false ∧ (p2.endLine == p4.line) = true ∧
    (∀ (s : Shared) (a u : Value), BindsTo s (PySem.W.ksFn "__init__" qual params body scope dV kV doc pm an (.ref cda) ct cc) ⟨[a, u], []⟩ [("self", a), ("value", u)])
abbrev ve_init : String := "ValueError.__init__"
section
open PySem.W PySem.Calls
variable {prog : Program} {w : World} {A : Around} {E : Value → Shared → Prop} {R : Result → Shared → Prop} {h : Heap} {g : Array GenState} {d : Drawn} {t : Nat} {os : OsState} {K : Frag} {mg : Str → Option Value} {a C : Addr} {u : Value} {base : Heap} {Q : Value → Shared → Prop}
theorem ve_boot : bootBuiltins "super" = some (.type "super") := by first | exact Boot.«super» | kernel_rfl | rfl
theorem eval_meth {o : Expr} {name : Str} {apos pos p : Pos} {x : Str} {env : PySem.Env} (h : (apos.endLine == pos.line) = true) : eval (.Call (.Attribute o name apos) [.Name x p] [] pos) env = (do
      let ov ← attributeBase o name env (eval o env)
      standAt apos.atName
      let (f, first) ← holding [ov] (getMethod ov name (do return (← importBound o env).getD true))
      callWith pos f first (backTo pos (starEach [.Name x p] env)) []) := by
  show (do
    let ov ← attributeBase o name env (eval o env)
    standAt apos.atName
    methodCall o name apos pos env ov 1 (backTo pos (starEach [.Name x p] env)) []) = _
  unfold methodCall methodCallPos calleeOf
  rw [h]
  rfl
/-- its __init__ -/
theorem jump_init {t0 : Addr} (J : JExc prog K C) (M : Mod K mg base) (hb : ∀ b o, base.get? b = some o → h.get? b = some o) (hs : mg "super" = none) (hroom : A.depth < recursionLimit)
    {fI : Addr} (hfI : findIn K (.ref C) "__init__" = some (some (.ref fI))) (he : h.get? a = some (PySem.HandSPX.excO C t0)) (hna : base.get? a = none)
    (hq : ∀ h' t' dx t1, (∀ b o, b ≠ a → h.get? b = some o → h'.get? b = some o) → h.objs.size ≤ dx → h.objs.size ≤ t1 → h'.get? a = some (excObj C t1 (some dx) .none) → h'.get? t1 = some (excTup [u]) → h'.Ns1 dx (fun y => if y = "value" then some u else none) →
      R (.ok (.ret .none)) ⟨h', g, d, t', os⟩) :
    codeAny (model prog w) A (.call (.ref fI) ⟨[.ref a, u], []⟩) R ⟨h, g, d, t, os⟩ := by
  obtain ⟨T, D, fI', cda, cc, qual, params, body, scope, dV, kV, doc, pm, ct, oc, ccl, cl, an, od, cdd, cld, osl, ccs, csl, vs, file, tf, cdD, cdC, p0, p1, p2, p3, p4, p5, p6, p7, p8, p9, ar,
    iC, tI, lk, hcd, hcode, hvs, hfile, hcell, hD, hsub, hcdC, hal, hsV, hop, hval, hbody, n1, n2, n3, n4, ncell, nco, ngen, nk, hp, har, htop, hpos, hbind⟩ := J
  rw [hfI] at iC
  cases iC
  have X : K.In h := M.kin.keeps hb
  have lim : h.NoLimit := M.nolimit.keeps hb
  refine ks_codeAny_call_defAt (fd := ksFn "__init__" qual params body scope dV kV doc pm an (.ref cda) ct cc) (body := body) (binds := [("self", .ref a), ("value", u)]) hroom (X _ _ lk) rfl lim (codeRec_of X hcd) rfl (hbind _ _ _) ncell
    (fun x hx => ?_) (fun h1 hns k1 => ?_) nco ngen nk
  · rcases List.mem_cons.mp hx with rfl | hx
    · exact n3
    · rcases List.mem_cons.mp hx with rfl | hx
      · exact n4
      · cases hx
  subst hbody
  obtain ⟨nm, q, N, bs, bm, sn, sub, ab, col, dd, k0, k1', k2, k3, k5, hCl, hbm⟩ := T.cls
  have hcl : PySem.W.clsIn K C = some { name := nm, bases := bs, mro := .ref C :: bm, ns := N, qualname := q, hasDict := true, slotNames := sn, subclasses := sub, abstract := ab, collection := col, hasDel := false } := by unfold PySem.W.clsIn; rw [hCl] <;> rfl
  obtain ⟨mb, hmb, hbt⟩ := M.blt
  obtain ⟨oD, hD1, hD2⟩ : ∃ oD, K.lookup D = some oD ∧ oD.data = .cls cdD := by
    unfold clsIn at hD
    split at hD
    · rename_i c d cd' sl ho
      cases hD
      exact ⟨_, ho, rfl⟩
    · cases hD
  have hL : h.objs.size ≠ a := fun z => by
    have := Heap.lt_size he
    rw [z] at this
    exact Nat.lt_irrefl _ this
  have X1 : K.In h1 := X.keeps k1
  have he1 := k1 _ _ he
  have aC : a ≠ C := fun z => by
    have := X _ _ hCl
    rw [← z, he] at this
    cases this
  have ldv : ∀ {h2 : Heap} {t2 : Nat} {x : Str} {v : Value} {p : Pos} {Q : Value → Shared → Prop} {E : Value → Shared → Prop} {A' : Around}, h2.Ns h.objs.size (fun x => [(("self" : Str), Value.ref a), (("value" : Str), u)].reverse.lookup x) → scope.names.lookup x = some .local → [(("self" : Str), Value.ref a), (("value" : Str), u)].reverse.lookup x = some v →
      (x == ("__debug__" : Str)) = false → Q v ⟨h2, g, d, t2, os⟩ → wpAny (model prog w) A' (eval (.Name x p) (ksEnv qual scope h.objs.size fI (.ref cda) cc)) Q E ⟨h2, g, d, t2, os⟩ := fun hn hx hv hd hq => wpAny_Name (wpAny_loadName_local nk hx hn hv hq) hd
  have hint : interactive (ksEnv qual scope h.objs.size fI (.ref cda) cc) = false := by
    unfold interactive
    show (scope.kind == .module && _) = false
    rw [nk]
    rfl
  refine ks_wpAt_execs_cons (ks_wpAt_Expr_any (hi := hint) (ks_wpAt_MethodCall (he := eval_meth hpos) (ks_wpAt_super_base (env := ksEnv qual scope h.objs.size fI (.ref cda) cc) n1 n2 rfl rfl (X1 _ _ lk) rfl hp rfl (X1 _ _ hcode) rfl hvs hfile htop ?_)))
  refine ks_loadName_global nk n1 (loadGlobal_builtin (env := ksEnv qual scope h.objs.size fI (.ref cda) cc) ((M.glob.keeps hb).keeps k1) hs ((hmb.keeps hb).keeps k1) ((hbt _ (by decide)).trans ve_boot) ⟨rfl, ?_⟩)
  refine wpAny_loadName_free nk n2 rfl ⟨_, X1 _ _ hcell, rfl⟩ ?_
  rw [har]
  refine wpAny_loadName_local nk n3 hns (v := .ref a) rfl ?_
  refine ks_wpAny_isType_cls (X1 _ _ hD1) hD2 ⟨rfl, ?_⟩
  refine ks_wpAny_call_super (X1 _ _ hD1) hD2 he1 rfl (fun c e => by cases e) (looks_mroIn X1 hsub) (fun h2 e2 k2 => ?_)
  have X2 : K.In h2 := X1.keeps k2
  have he2 := k2 _ _ he1
  have I2 : InstAt h2 a (PySem.HandSPX.excO C t0) C none := ⟨he2, rfl, rfl, trivial⟩
  refine kxs_getMethod kxs_ValueError e2 (looks_opaque X2 hop) (l₀ := cdC.mro) (fun A Q E s k q => wpAny_bind ((looks_clsIn X2 hcdC) A _ E s k (wpAny_pure q))) rfl X2 hal (I2.type.andThen (looks_subIn X2 hsV)) aC (by decide) ?_
  have k3 : ∀ b o, h2.get? b = some o → (h2.push (kxs_mw ve_init a)).get? b = some o := fun b o e => Heap.get?_push_of_some _ e
  have e3 : (h2.push (kxs_mw ve_init a)).get? h2.objs.size = some (kxs_mw ve_init a) := Heap.get?_push_at rfl rfl
  have s3 : (h2.push (kxs_mw ve_init a)).objs.size = h2.objs.size + 1 := Heap.size_push _ _
  generalize h2.push (kxs_mw ve_init a) = h3 at k3 e3 s3
  have hns3 : h3.Ns h.objs.size (fun x => [(("self" : Str), Value.ref a), (("value" : Str), u)].reverse.lookup x) := (hns.keeps k2).keeps k3
  have he3 := k3 _ _ he2
  have X3 : K.In h3 := X2.keeps k3
  show wpAny _ _ (callWith p4 (.ref h2.objs.size) [] (backTo p4 (starEach [.Name "value" p3] (ksEnv qual scope h.objs.size fI (.ref cda) cc))) []) _ _ _
  rw [show starEach [Expr.Name "value" p3] (ksEnv qual scope h.objs.size fI (.ref cda) cc) = (false, eval (.Name "value" p3) (ksEnv qual scope h.objs.size fI (.ref cda) cc)) :: starEach [] (ksEnv qual scope h.objs.size fI (.ref cda) cc) from rfl]
  refine kxs_callWith (i := ve_init) (x := a) rfl (evalArgs_plain ?_)
  refine Calls.spliced_cons (ldv hns3 n4 rfl (by decide) ?_)
  refine Calls.spliced_nil ⟨e3, ?_⟩
  refine wpAny_call (codeAny_of_tree ?_)
  show wpAny _ _ (callAny (.ref h2.objs.size) ⟨[u], []⟩) _ _ _
  simp only [callAny]
  refine wpAny_bind (wpAny_load e3 ?_)
  simp only [kxs_mw, show (Value.type "method-wrapper" == Value.type "method" || Value.type "method-wrapper" == Value.type "builtin_function_or_method" || Value.type "method-wrapper" == Value.type "method-wrapper") = true by decide, if_true]
  refine KFB.if_so (by decide) ?_
  refine wpAny_bind (check_bound_init F.excBase_ValueError.toExcCallFacts (X3 _ _ hCl) he3 rfl ?_)
  refine wpAny_bind (wpAny_pure (wpAny_pure ?_))
  refine ⟨plainId_quiet F.excBase_ValueError.init.plain _, codeAny_builtin F.excBase_ValueError.initEntry ?_⟩
  refine exc_init_tree (cls := .ref C) (t0 := t0) (dv := none) (c2 := .none) (c3 := .none) (b4 := .bool false) he3 (by show 1 ≤ sizeLine; rw [sizeLine_eq]; omega) fun h4 k4 e4 t4 => ?_
  have hns4 : h4.Ns h.objs.size (fun x => [(("self" : Str), Value.ref a), (("value" : Str), u)].reverse.lookup x) := by
    obtain ⟨oL, es, ep, ho, r⟩ := hns3
    exact ⟨oL, es, ep, k4 _ _ hL ho, r⟩
  have X4 : K.In h4 := fun b o e => by
    refine k4 _ _ (fun z => ?_) (X3 _ _ e)
    have := M.kin _ _ e
    rw [z, hna] at this
    cases this
  refine ks_wpAt_execs_cons (ks_wpAt_Assign_Attr (wpAt_of_wpAny (ldv hns4 n4 rfl (by decide) (ldv hns4 n3 rfl (by decide) ?_))))
  refine set_plain X4 (ox := excObj C h3.objs.size none .none) (od := none) ⟨e4, rfl, rfl, trivial⟩ T.sa ?_
  refine PySem.HandSPX.exc_osa X4 e4 hcl (show PySem.HandSPX.refsVE (.ref C :: bm) = true from hbm) rfl hval (fun h' tk' dx k dn dne hx hn => ?_)
  refine wpAt_of_wpAny (wpAny_pure ?_)
  have hz : h.objs.size ≤ dx := by
    obtain ⟨oL, es, ep, ho, r⟩ := hns4
    exact Nat.le_trans (Nat.le_of_lt (Heap.lt_size ho)) dn
  have hz3 : h.objs.size ≤ h3.objs.size := by
    obtain ⟨oL, es, ep, ho, r⟩ := hns3
    exact Nat.le_of_lt (Heap.lt_size ho)
  refine hq h' tk' dx h3.objs.size (fun b o hb e => k _ _ hb (k4 _ _ hb (k3 _ _ (k2 _ _ (k1 _ _ e))))) hz hz3 hx (k _ _ (fun z => ?_) t4) hn
  have := Heap.lt_size he3
  rw [z] at this
  exact Nat.lt_irrefl _ this
/-- C(u) -/
theorem jump_call (J : JExc prog K C) (M : Mod K mg base) (hb : ∀ b o, base.get? b = some o → h.get? b = some o) (hs : mg "super" = none) (hr : Room 0 A)
    (hq : ∀ h' t' a dx t1, (∀ b o, h.get? b = some o → h'.get? b = some o) → h.objs.size ≤ a → h.objs.size ≤ dx → h.objs.size ≤ t1 → a ≠ dx → h'.get? a = some (excObj C t1 (some dx) .none) → h'.get? t1 = some (excTup [u]) → h'.Ns1 dx (fun y => if y = "value" then some u else none) →
      Q (.ref a) ⟨h', g, d, t', os⟩) :
    wpAny (model prog w) A (call (.ref C) [u]) Q E ⟨h, g, d, t, os⟩ := by
  have X : K.In h := M.kin.keeps hb
  obtain ⟨nm, q, N, bs, bm, sn, sub, ab, col, dd, k0, k1', k2, k3, k5, hCl, hbm⟩ := J.T.cls
  obtain ⟨fI, iC, tI⟩ : ∃ fI, findIn K (.ref C) "__init__" = some (some (.ref fI)) ∧ typeIn K (.ref fI) = some (.type "function") := by
    obtain ⟨_, D, fI, cda, cc, qual, params, body, scope, dV, kV, doc, pm, ct, oc, ccl, cl, an, od, cdd, cld, osl, ccs, csl, vs, file, tf, cdD, cdC, p0, p1, p2, p3, p4, p5, p6, p7, p8, p9, ar, iC, tI, _⟩ := J
    exact ⟨fI, iC, tI⟩
  have kk : ∀ b o, h.get? b = some o → ((h.push (kdv_tup [u])).push (PySem.HandSPX.excO C h.objs.size)).get? b = some o := fun b o e => Heap.get?_push_of_some _ (Heap.get?_push_of_some _ e)
  have hget : ((h.push (kdv_tup [u])).push (PySem.HandSPX.excO C h.objs.size)).get? (h.objs.size + 1) = some (PySem.HandSPX.excO C h.objs.size) := by heap_get
  have hsz : ((h.push (kdv_tup [u])).push (PySem.HandSPX.excO C h.objs.size)).objs.size = h.objs.size + 1 + 1 := by rw [Heap.size_push, Heap.size_push]
  have nne : ∀ b o, h.get? b = some o → b ≠ h.objs.size + 1 := fun b o e z => by
    have z2 := Heap.lt_size e
    rw [z] at z2
    exact Nat.lt_irrefl _ (Nat.lt_trans (Nat.lt_succ_self _) z2)
  refine wpAny_call (PySem.HandSPX.call_own F.excBase_ValueError (fun Y => PySem.HandSPX.refsVE_contains Y bm hbm) (X _ _ hCl) (looks_findIn X iC) (fun self => bind_fn X self tI) (by show 1 ≤ sizeLine; rw [sizeLine_eq]; omega) ?_)
  refine jump_init J M (fun b o e => kk _ _ (hb _ _ e)) hs (by have := hr.dp; rw [make_depth]; omega) iC hget ?_ fun h' t' dx t1 k1 z1 z3 e1 e2 e3 => ?_
  · cases e : base.get? (h.objs.size + 1) with
    | none => rfl
    | some o => exact absurd rfl (nne _ _ (hb _ _ e))
  · exact ⟨rfl, hq h' t' _ dx t1 (fun b o e => k1 _ _ (nne _ _ e) (kk _ _ e)) (Nat.le_succ _) (Nat.le_trans (by rw [hsz]; exact Nat.le_trans (Nat.le_succ _) (Nat.le_succ _)) z1) (Nat.le_trans (by rw [hsz]; exact Nat.le_trans (Nat.le_succ _) (Nat.le_succ _)) z3) (fun z => by rw [hsz, ← z] at z1; exact Nat.not_succ_le_self _ z1) e1 e2 e3⟩
end
section
variable {X : Cx} {e : Expr} {te : TE} {x : Str} {C : Addr} {p pos : Pos}
/-- the heap behind C(u): what is held, what is new -/
theorem un_new {fs : List Addr} {H : Hp} {h h' : Heap} {d : Addr} {o : HO} (k : ∀ b o, h.get? b = some o → h'.get? b = some o) (hd : h.objs.size ≤ d) (hn : H d = none) : Un fs [] H (upd H d o) h h' := {
  keep := fun b o q n _ _ => k b o q
  slot := fun b o q n _ _ => ⟨o.slots, k b o q⟩
  free := fun b o q n _ => by rw [upd_ne (Nat.ne_of_lt (Nat.lt_of_lt_of_le (Heap.lt_size q) hd))]; exact n
  there := fun b o q _ => ⟨o, k b o q⟩
  tups := fun b xs q => by rw [upd_ne (ne_of_none q hn)]; exact q
  frzs := fun b o v q => by rw [upd_ne (ne_of_none q hn)]; exact q
  tbls := fun b ps q => ⟨#[], by rw [upd_ne (ne_of_none q hn), q]; simp⟩ }
theorem hok_new {P : Program} {w : World} {H : Hp} {h h' : Heap} {d : Addr} {o : HO} (hok : HOk P w H h) (k : ∀ b o, h.get? b = some o → h'.get? b = some o) (hn : H d = none) (new : ObjOk P w (upd H d o) h' d o) : HOk P w (upd H d o) h' := fun b q z => by
  by_cases hb : b = d
  · subst hb
    rw [upd_same] at z
    cases z
    exact new
  · rw [upd_ne hb] at z
    exact (hok b q z).stay (fun c v _ y => k c v y) (fun c y => by rw [upd_ne (ne_of_none y hn)]; exact y) fun c xs y => by rw [upd_ne (ne_of_none y hn)]; exact y
/-- raise C(e): what is made, to be raised at once -/
theorem pmk_jump (J : JExc X.prog X.K C) (hs : X.mg "super" = none) (hr : Room 0 X.A) (hg : Gl X x) (hm : X.mg x = some (.ref C)) (he : PE X e te) (hns : starEach [e] X.env = (false, eval e X.env) :: starEach [] X.env) (hdb : (x == ("__debug__" : Str)) = false) :
    PMk X (.Call (.Name x p) [e] [] pos) (fun σ H Q => te σ H fun v H1 => ∀ d, H1 d = none → Q (.ref C) (some d) (upd H1 d (.xd [("value", v)]))) := by
  intro pins s σ H Q I h
  refine wpAny_Call_Name_kw (ld_glob I hg hm ?_ hdb)
  refine PySem.W.callWith_K (h₀ := X.base) I.ok.mod.kin J.T.kC ?_ hns (by rfl)
  rw [hns]
  show wpAny _ _ (spliced ((false, eval e X.env) :: backTo pos (starEach [] X.env))) _ _ s
  refine Calls.spliced_cons (thn (he.run pins s σ H _ I h) fun u s1 ⟨v, H1, I1, r1, q1⟩ => ?_)
  refine Calls.spliced_nil ⟨I1.kIn, ?_⟩
  show wpAny _ _ (call (.ref C) [u]) _ _ _
  obtain ⟨hp, g, dr, tk, os⟩ := s1
  refine jump_call J I1.ok.mod (fun b o e => I1.bk _ _ e) hs hr fun h' t' a dx t1 k1 z1 z2 z3 nad e1 e2 e3 => ?_
  have hd1 : H1 dx = none := I1.hok.fresh z2
  have ha1 : H1 a = none := I1.hok.fresh z1
  obtain ⟨G, g1, g2⟩ := restrict h' fun b => decide (b ≠ a)
  have gk : ∀ b, b ≠ a → G.get? b = h'.get? b := fun b hb => g1 b (decide_eq_true hb)
  have ga : G.get? a = none := g2 a (by simp)
  have nea : ∀ b o, hp.get? b = some o → b ≠ a := fun b o q => Nat.ne_of_lt (Nat.lt_of_lt_of_le (Heap.lt_size q) z1)
  have kG : ∀ b o, hp.get? b = some o → G.get? b = some o := fun b o q => (gk b (nea b o q)).trans (k1 b o q)
  obtain ⟨oD, es, ep, q1', q2'⟩ := e3
  have gd : G.Ns1 dx (fun y => if y = "value" then some u else none) := ⟨oD, es, ep, (gk dx (Ne.symm nad)).trans q1', q2'⟩
  have J2 : Inv X pins σ (upd H1 dx (.xd [("value", v)])) ⟨G, g, dr, t', os⟩ := I1.un (t' := t') (un_new kG z2 hd1) (hok_new I1.hok kG hd1 ⟨_, gd, relO_put (fs := []) r1 fun g => True.intro⟩)
  refine ⟨a, _, _, ⟨G, g, dr, t', os⟩, _, .ref C, some dx, rfl, J2, fun b o q => ?_, ga, e1, ⟨rfl, rfl⟩, rfl, rfl, ?_, rfl, J2.bare, raises_own J.T.exC J.T.tyC, q1 dx hd1⟩
  · by_cases hb : b = a
    · rw [hb, ga] at q
      cases q
    · rw [← gk b hb]
      exact q
  · rw [upd_ne nad]
    exact ha1
end
end EV
set_option Elab.async false
set_option linter.all false
set_option maxRecDepth 100000
namespace EV
open PySem (Str)

/-! ### data that never changes -/
inductive D where
  | non | bl (b : Bool) | int (i : Int) | str (s : Str) | tup (ds : List D)

mutual
def D.same : D → D → Bool
  | .non, .non => true
  | .bl a, .bl b => a == b
  | .int a, .int b => decide (a = b)
  | .str a, .str b => decide (a = b)
  | .tup a, .tup b => D.sames a b
  | _, _ => false
def D.sames : List D → List D → Bool
  | [], [] => true
  | a :: as, b :: bs => D.same a b && D.sames as bs
  | _, _ => false
end
mutual
theorem D.same_eq : ∀ a b : D, D.same a b = true → a = b
  | .non, .non, _ => rfl
  | .bl a, .bl b, h => by simp [D.same] at h; rw [h]
  | .int a, .int b, h => by simp [D.same] at h; rw [h]
  | .str a, .str b, h => by simp [D.same] at h; rw [h]
  | .tup a, .tup b, h => by
    have h' : D.sames a b = true := by simpa [D.same] using h
    rw [D.sames_eq a b h']
  | .non, .bl _, h | .non, .int _, h | .non, .str _, h | .non, .tup _, h => by simp [D.same] at h
  | .bl _, .non, h | .bl _, .int _, h | .bl _, .str _, h | .bl _, .tup _, h => by simp [D.same] at h
  | .int _, .non, h | .int _, .bl _, h | .int _, .str _, h | .int _, .tup _, h => by simp [D.same] at h
  | .str _, .non, h | .str _, .bl _, h | .str _, .int _, h | .str _, .tup _, h => by simp [D.same] at h
  | .tup _, .non, h | .tup _, .bl _, h | .tup _, .int _, h | .tup _, .str _, h => by simp [D.same] at h
theorem D.sames_eq : ∀ a b : List D, D.sames a b = true → a = b
  | [], [], _ => rfl
  | a :: as, b :: bs, h => by
    have h' : D.same a b = true ∧ D.sames as bs = true := by simpa [D.sames] using h
    rw [D.same_eq a b h'.1, D.sames_eq as bs h'.2]
  | [], _ :: _, h => by simp [D.sames] at h
  | _ :: _, [], h => by simp [D.sames] at h
end
mutual
theorem D.same_self : ∀ a : D, D.same a a = true
  | .non => by simp [D.same]
  | .bl _ => by simp [D.same]
  | .int _ => by simp [D.same]
  | .str _ => by simp [D.same]
  | .tup a => by simp [D.same, D.sames_self a]
theorem D.sames_self : ∀ a : List D, D.sames a a = true
  | [] => by simp [D.sames]
  | a :: as => by simp [D.sames, D.same_self a, D.sames_self as]
end
instance : DecidableEq D := fun a b => if h : D.same a b = true then .isTrue (D.same_eq a b h) else .isFalse fun e => h (e ▸ D.same_self a)

/-- a value: data; what is held by one alone (o = true) or by many, never changed again (o = false) -/
inductive T where
  | im (d : D)
  | tup (ts : List T)
  | lst (o : Bool) (ts : List T)
  /-- k: its keys are tuples -/
  | dct (o : Bool) (k : Bool) (ks : List D) (ts : List T)
  | ins (o : Bool) (c : Nat) (fs : List T)
  | exc (c : Nat) (v : T)
  | hole
  /-- (proofs alone) an address that is one's own -/
  | cell

mutual
/-- nothing in it can be changed -/
def T.clean : T → Bool
  | .im _ => true
  | .tup ts => T.cleans ts
  | .lst o ts => !o && T.cleans ts
  | .dct o _ _ ts => !o && T.cleans ts
  | .ins o _ fs => !o && T.cleans fs
  | .exc _ v => T.clean v
  | .hole => true
  | .cell => false
def T.cleans : List T → Bool
  | [] => true
  | t :: ts => T.clean t && T.cleans ts
end
mutual
/-- from now on it is never changed -/
def T.frz : T → T
  | .im d => .im d
  | .tup ts => .tup (T.frzs ts)
  | .lst _ ts => .lst false (T.frzs ts)
  | .dct _ k ks ts => .dct false k ks (T.frzs ts)
  | .ins _ c fs => .ins false c (T.frzs fs)
  | .exc c v => .exc c (T.frz v)
  | .hole => .hole
  | .cell => .hole
def T.frzs : List T → List T
  | [] => []
  | t :: ts => T.frz t :: T.frzs ts
end
mutual
theorem T.frz_clean : ∀ t : T, T.clean (T.frz t) = true
  | .im _ => by simp [T.frz, T.clean]
  | .tup ts => by simp [T.frz, T.clean, T.frzs_clean ts]
  | .lst _ ts => by simp [T.frz, T.clean, T.frzs_clean ts]
  | .dct _ _ _ ts => by simp [T.frz, T.clean, T.frzs_clean ts]
  | .ins _ _ ts => by simp [T.frz, T.clean, T.frzs_clean ts]
  | .exc _ v => by simp [T.frz, T.clean, T.frz_clean v]
  | .hole => by simp [T.frz, T.clean]
  | .cell => by simp [T.frz, T.clean]
theorem T.frzs_clean : ∀ ts : List T, T.cleans (T.frzs ts) = true
  | [] => by simp [T.frzs, T.cleans]
  | t :: ts => by simp [T.frzs, T.cleans, T.frz_clean t, T.frzs_clean ts]
end
theorem T.frzs_length : ∀ ts : List T, (T.frzs ts).length = ts.length
  | [] => rfl
  | _ :: ts => by simp [T.frzs, T.frzs_length ts]
theorem T.cleans_iff : ∀ {ts : List T}, T.cleans ts = true ↔ ∀ t ∈ ts, T.clean t = true
  | [] => by simp [T.cleans]
  | t :: ts => by simp [T.cleans, T.cleans_iff (ts := ts)]
@[simp] theorem T.cleans_im : ∀ ds : List D, T.cleans (ds.map T.im) = true
  | [] => rfl
  | d :: ds => by simp [T.cleans, T.clean, T.cleans_im ds]
@[simp] theorem T.frzs_im : ∀ ds : List D, T.frzs (ds.map T.im) = ds.map T.im
  | [] => rfl
  | d :: ds => by simp [T.frzs, T.frz, T.frzs_im ds]
/-- all data? -/
def datas : List T → Option (List D)
  | [] => some []
  | .im d :: ts => (datas ts).map (d :: ·)
  | _ :: _ => none
@[simp] theorem datas_im : ∀ ds : List D, datas (ds.map T.im) = some ds
  | [] => rfl
  | d :: ds => by simp [datas, datas_im ds]
theorem datas_some : ∀ {ts : List T} {ds : List D}, datas ts = some ds → ts = ds.map T.im
  | [], ds, h => by simp [datas] at h; subst h; rfl
  | .im d :: ts, ds, h => by
    simp only [datas, Option.map_eq_some_iff] at h
    obtain ⟨r, h1, rfl⟩ := h
    rw [datas_some h1]
    rfl
  | .tup _ :: _, _, h | .lst _ _ :: _, _, h | .dct _ _ _ _ :: _, _, h | .ins _ _ _ :: _, _, h | .exc _ _ :: _, _, h | .hole :: _, _, h | .cell :: _, _, h => by simp [datas] at h
/-- a tuple of these -/
def mkTup (ts : List T) : T := match datas ts with
  | some ds => .im (.tup ds)
  | none => .tup ts
@[simp] theorem mkTup_im (ds : List D) : mkTup (ds.map T.im) = .im (.tup ds) := by simp [mkTup]

/-- == of data, as Python has it (True is 1) -/
def b2i (b : Bool) : Int := if b then 1 else 0
mutual
def peq : D → D → Bool
  | .non, .non => true
  | .bl a, .bl b => a == b
  | .bl a, .int b => decide (b2i a = b)
  | .int a, .bl b => decide (a = b2i b)
  | .int a, .int b => decide (a = b)
  | .str a, .str b => decide (a = b)
  | .tup a, .tup b => peqs a b
  | _, _ => false
def peqs : List D → List D → Bool
  | [], [] => true
  | a :: as, b :: bs => peq a b && peqs as bs
  | _, _ => false
end
mutual
theorem peq_self : ∀ a : D, peq a a = true
  | .non => by simp [peq]
  | .bl _ => by simp [peq]
  | .int _ => by simp [peq]
  | .str _ => by simp [peq]
  | .tup a => by simp [peq, peqs_self a]
theorem peqs_self : ∀ a : List D, peqs a a = true
  | [] => by simp [peqs]
  | a :: as => by simp [peqs, peq_self a, peqs_self as]
end
mutual
/-- no truth values in it -/
def D.nob : D → Bool
  | .bl _ => false
  | .tup ds => D.nobs ds
  | _ => true
def D.nobs : List D → Bool
  | [] => true
  | d :: ds => D.nob d && D.nobs ds
end
mutual
theorem peq_nob : ∀ a b : D, D.nob a = true → D.nob b = true → (peq a b = true ↔ a = b)
  | .non, b, _, _ => by cases b <;> simp [peq]
  | .bl _, b, h, _ => by simp [D.nob] at h
  | .int a, b, _, hb => by cases b <;> simp [peq, D.nob] at hb ⊢
  | .str a, b, _, _ => by cases b <;> simp [peq]
  | .tup a, b, ha, hb => by
    cases b with
    | tup b =>
      have := peqs_nob a b (by simpa [D.nob] using ha) (by simpa [D.nob] using hb)
      simp [peq, this]
    | _ => simp [peq]
theorem peqs_nob : ∀ a b : List D, D.nobs a = true → D.nobs b = true → (peqs a b = true ↔ a = b)
  | [], b, _, _ => by cases b <;> simp [peqs]
  | a :: as, b, ha, hb => by
    cases b with
    | nil => simp [peqs]
    | cons b bs =>
      have ha' : D.nob a = true ∧ D.nobs as = true := by simpa [D.nobs] using ha
      have hb' : D.nob b = true ∧ D.nobs bs = true := by simpa [D.nobs] using hb
      simp [peqs, peq_nob a b ha'.1 hb'.1, peqs_nob as bs ha'.2 hb'.2]
end
end EV
set_option Elab.async false
set_option linter.all false
set_option maxRecDepth 100000
namespace EV
open PySem PySem.Spec L2
open PyProof.Rows hiding St

theorem frzs_get : ∀ {ts : List T} {i : Nat} {t : T}, (T.frzs ts)[i]? = some t → ∃ t0, ts[i]? = some t0 ∧ t = T.frz t0
  | [], i, t, h => by simp [T.frzs] at h
  | a :: ts, 0, t, h => by
    simp [T.frzs] at h
    exact ⟨a, by simp, h.symm⟩
  | a :: ts, i + 1, t, h => by
    obtain ⟨t0, h1, h2⟩ := frzs_get (ts := ts) (i := i) (t := t) (by simpa [T.frzs] using h)
    exact ⟨t0, by simpa using h1, h2⟩

def kD : Key → D
  | .inl i => .int i
  | .inr s => .str s
def ktD (l : List Key) : D := .tup (l.map kD)

/-! ### how data lie in the heap -/
mutual
def RepD (K : PySem.W.Frag) (H : Hp) : D → V → Prop
  | .non, v => v = .non
  | .bl b, v => v = .bl b
  | .int i, v => v = .int i
  | .str s, v => v = .str s
  | .tup ds, v => ∃ a xs, v = .ref a ∧ SqT K H a xs ∧ RepDs K H ds xs
def RepDs (K : PySem.W.Frag) (H : Hp) : List D → List V → Prop
  | [], xs => xs = []
  | d :: ds, xs => ∃ x r, xs = x :: r ∧ RepD K H d x ∧ RepDs K H ds r
end
def own (b : Bool) (a : Addr) (l : List Addr) : List Addr := if b then a :: l else l
/-- a dict at a with these keys and values -/
def DRep (H : Hp) (a : Addr) : Bool → List D → List V → Prop
  | false, ks, xs => ∃ kk : List Key, ks = kk.map kD ∧ kk.length = xs.length ∧ H a = some (.dK (kk.zip xs)) ∧ kk.Nodup
  | true, ks, xs => ∃ kk : List (List Key), ks = kk.map ktD ∧ kk.length = xs.length ∧ H a = some (.dT (kk.zip xs)) ∧ kk.Nodup
/-- what never changes -/
def stat : HO → Bool
  | .tup _ => true
  | .frz _ _ => true
  | _ => false
/-- an exception of the class at C, its dict at dx; k: what it was made from, if that is told -/
def excH (k : Option Addr) (C dx a : Addr) : HO := .ext fun h => ∃ (oe : Obj) (vs : Array Value), h.get? a = some oe ∧ oe.cls = .ref C ∧ oe.dict = some dx ∧ oe.data = .fields vs ∧ ∀ t1, k = some t1 → vs[0]? = some (.ref t1)
/-- a list that is never written: the script, one that the top made -/
def FzL (K : PySem.W.Frag) (H : Hp) (a : Addr) (xs : List V) : Prop := (∃ o, H a = some (.frz o (.lst xs))) ∨
  ∃ (its : List Value) (n : Nat), K.lookup a = some { cls := .type "list", data := .seq its.toArray n } ∧ its.length ≤ sizeLine ∧ Vals xs its
theorem FzL.keep {K : PySem.W.Frag} {H H' : Hp} {a : Addr} {xs : List V} (h : FzL K H a xs) (k : ∀ b o, H b = some o → stat o = true → H' b = some o) : FzL K H' a xs :=
  h.elim (fun ⟨o, e⟩ => .inl ⟨o, k _ _ e rfl⟩) .inr
/-- a list -/
def LsA (K : PySem.W.Frag) (H : Hp) (a : Addr) (xs : List V) : Prop := H a = some (.lst xs) ∨ FzL K H a xs
theorem LsA.sq {K : PySem.W.Frag} {H : Hp} {a : Addr} {xs : List V} (h : LsA K H a xs) : SqL K H a xs := by
  rcases h with h | h | ⟨its, n, h1, h2, h3⟩
  · exact .inl (.inl h)
  · exact .inl (.inr h)
  · exact .inr ⟨_, its.toArray, n, h1, rfl, rfl, rfl, by rw [List.size_toArray]; exact h2, by simpa using h3⟩
theorem LsA.raw {X : Cx} {pins : List (Addr × Obj)} {σ : St} {H : Hp} {s : Shared} (I : Inv X pins σ H s) {a : Addr} {xs : List V} (h : LsA X.K H a xs) :
    xs.length ≤ sizeLine ∧ ∃ (its : List Value) (n : Nat), Vals xs its ∧ s.heap.get? a = some { cls := .type "list", data := .seq its.toArray n } := by
  rcases h with h | ⟨o, h⟩ | ⟨its, n, h1, h2, h3⟩
  · exact (I.hok a _ h : ObjOk X.prog X.w H s.heap a (.lst xs))
  · exact (I.hok a _ h : ObjOk X.prog X.w H s.heap a (.frz o (.lst xs))).2
  · exact ⟨by rw [h3.length]; exact h2, its, n, h3, I.kIn _ _ h1⟩
mutual
/-- fp: the addresses that it alone holds; sh: those that may be held by others and never change -/
def Rep (K : PySem.W.Frag) (ca : Nat → Addr) (H : Hp) : T → V → List Addr → List Addr → Prop
  | .im d, v, fp, sh => fp = [] ∧ sh = [] ∧ RepD K H d v
  | .tup ts, v, fp, sh => ∃ a xs, v = .ref a ∧ SqT K H a xs ∧ Reps K ca H ts xs fp sh
  | .lst o ts, v, fp, sh => ∃ a xs fp' sh', v = .ref a ∧ Reps K ca H ts xs fp' sh' ∧ ((H a = some (.lst xs) ∧ fp = own o a fp' ∧ sh = own (!o) a sh') ∨ (o = false ∧ FzL K H a xs ∧ fp = fp' ∧ sh = sh'))
  | .dct o k ks ts, v, fp, sh => ∃ a xs fp' sh', v = .ref a ∧ DRep H a k ks xs ∧ Reps K ca H ts xs fp' sh' ∧ fp = own o a fp' ∧ sh = own (!o) a sh'
  | .ins o c fs, v, fp, sh => ∃ a dx vs xs fp' sh', v = .ref a ∧ SlX.Slt H a (ca c) dx vs ∧ (∃ od, H dx = some od ∧ stat od = false) ∧ Reps K ca H fs xs fp' sh' ∧ (∀ (i : Nat) t x, fs[i]? = some t → t ≠ .hole → xs[i]? = some x → vs[i]? = some (some x)) ∧
      fp = own o a (own o dx fp') ∧ sh = own (!o) a (own (!o) dx sh')
  | .exc c y, v, fp, sh => ∃ a dx x sh' k, v = .ref a ∧ H a = some (excH k (ca (c / 2)) dx a) ∧ (c % 2 = 0 → ∃ t1, k = some t1 ∧ H t1 = some (.tup [x])) ∧ H dx = some (.xd [("value", x)]) ∧ Rep K ca H y x fp sh' ∧ sh = a :: dx :: sh'
  | .hole, _, fp, sh => fp = [] ∧ sh = []
  | .cell, v, fp, sh => ∃ a o, v = .ref a ∧ fp = [a] ∧ sh = [] ∧ H a = some o ∧ stat o = false
def Reps (K : PySem.W.Frag) (ca : Nat → Addr) (H : Hp) : List T → List V → List Addr → List Addr → Prop
  | [], xs, fp, sh => xs = [] ∧ fp = [] ∧ sh = []
  | t :: ts, xs, fp, sh => ∃ x r f1 f2 s1 s2, xs = x :: r ∧ Rep K ca H t x f1 s1 ∧ Reps K ca H ts r f2 s2 ∧ fp = f1 ++ f2 ∧ sh = s1 ++ s2
end

section
variable {K : PySem.W.Frag} {ca : Nat → Addr} {H H' : Hp}
theorem SqT.keep {a : Addr} {xs : List V} (h : SqT K H a xs) (k : ∀ b o, H b = some o → stat o = true → H' b = some o) : SqT K H' a xs := by
  rcases h with (h | ⟨o, h⟩) | h
  · exact .inl (.inl (k _ _ h rfl))
  · exact .inl (.inr ⟨o, k _ _ h rfl⟩)
  · exact .inr h
mutual
theorem RepD.keep (k : ∀ b o, H b = some o → stat o = true → H' b = some o) : ∀ {d : D} {v : V}, RepD K H d v → RepD K H' d v
  | .non, _, h => h
  | .bl _, _, h => h
  | .int _, _, h => h
  | .str _, _, h => h
  | .tup ds, v, h => by
    unfold RepD at h ⊢
    obtain ⟨a, xs, e, s, r⟩ := h
    exact ⟨a, xs, e, SqT.keep s k, RepDs.keep k r⟩
theorem RepDs.keep (k : ∀ b o, H b = some o → stat o = true → H' b = some o) : ∀ {ds : List D} {xs : List V}, RepDs K H ds xs → RepDs K H' ds xs
  | [], _, h => h
  | d :: ds, xs, h => by
    unfold RepDs at h ⊢
    obtain ⟨x, r, e, h1, h2⟩ := h
    exact ⟨x, r, e, RepD.keep k h1, RepDs.keep k h2⟩
end
theorem mem_own {b : Bool} {a x : Addr} {l : List Addr} : x ∈ own b a l ↔ (b = true ∧ x = a) ∨ x ∈ l := by
  unfold own
  cases b <;> simp
theorem own_or {A : Addr → Prop} {o : Bool} {a : Addr} {f s : List Addr} (hf : ∀ b ∈ own o a f, A b) (hs : ∀ b ∈ own (!o) a s, A b) : A a ∧ (∀ b ∈ f, A b) ∧ ∀ b ∈ s, A b := by
  refine ⟨?_, fun b h => hf b (mem_own.mpr (.inr h)), fun b h => hs b (mem_own.mpr (.inr h))⟩
  cases o with
  | true => exact hf a (mem_own.mpr (.inl ⟨rfl, rfl⟩))
  | false => exact hs a (mem_own.mpr (.inl ⟨rfl, rfl⟩))
theorem DRep.keep {a : Addr} {k : Bool} {ks : List D} {xs : List V} (h : DRep H a k ks xs) (e : ∀ o, H a = some o → H' a = some o) : DRep H' a k ks xs := by
  cases k with
  | false => obtain ⟨kk, h1, h2, h3, h4⟩ := h; exact ⟨kk, h1, h2, e _ h3, h4⟩
  | true => obtain ⟨kk, h1, h2, h3, h4⟩ := h; exact ⟨kk, h1, h2, e _ h3, h4⟩
theorem Slt.keep {a C dx : Addr} {vs : List (Option V)} (h : SlX.Slt H a C dx vs) (e : ∀ o, H a = some o → H' a = some o) (e' : ∀ o, H dx = some o → H' dx = some o) : SlX.Slt H' a C dx vs := by
  rcases h with ⟨h1, h2⟩ | ⟨h1, h2⟩
  · exact .inl ⟨e _ h1, h2⟩
  · exact .inr ⟨e _ h1, e' _ h2⟩
mutual
theorem Rep.keep {A : Addr → Prop} (k : ∀ b o, H b = some o → (A b ∨ stat o = true) → H' b = some o) : ∀ {t : T} {v : V} {fp sh : List Addr}, Rep K ca H t v fp sh → (∀ b ∈ fp, A b) → (∀ b ∈ sh, A b) → Rep K ca H' t v fp sh
  | .im d, v, fp, sh, h, _, _ => by
    unfold Rep at h ⊢
    exact ⟨h.1, h.2.1, RepD.keep (fun b o e s => k b o e (.inr s)) h.2.2⟩
  | .tup ts, v, fp, sh, h, hf, hs => by
    unfold Rep at h ⊢
    obtain ⟨a, xs, e, s, r⟩ := h
    exact ⟨a, xs, e, SqT.keep s (fun b o e s => k b o e (.inr s)), Reps.keep k r hf hs⟩
  | .lst o ts, v, fp, sh, h, hf, hs => by
    unfold Rep at h ⊢
    obtain ⟨a, xs, f, s, e, r, ⟨ha, rfl, rfl⟩ | ⟨ho, ha, rfl, rfl⟩⟩ := h
    · obtain ⟨h1, h2, h3⟩ := own_or hf hs
      exact ⟨a, xs, f, s, e, Reps.keep k r h2 h3, .inl ⟨k _ _ ha (.inl h1), rfl, rfl⟩⟩
    · exact ⟨a, xs, _, _, e, Reps.keep k r hf hs, .inr ⟨ho, ha.keep fun b o e s => k b o e (.inr s), rfl, rfl⟩⟩
  | .dct o q ks ts, v, fp, sh, h, hf, hs => by
    unfold Rep at h ⊢
    obtain ⟨a, xs, f, s, e, ha, r, rfl, rfl⟩ := h
    obtain ⟨h1, h2, h3⟩ := own_or hf hs
    exact ⟨a, xs, f, s, e, ha.keep fun o z => k _ _ z (.inl h1), Reps.keep k r h2 h3, rfl, rfl⟩
  | .ins o c fs, v, fp, sh, h, hf, hs => by
    unfold Rep at h ⊢
    obtain ⟨a, dx, vs, xs, f, s, e, ha, ⟨od, hd1, hd2⟩, r, z, rfl, rfl⟩ := h
    obtain ⟨h1, h2, h3⟩ := own_or hf hs
    obtain ⟨h4, h5, h6⟩ := own_or h2 h3
    exact ⟨a, dx, vs, xs, f, s, e, Slt.keep ha (fun o z => k _ _ z (.inl h1)) (fun o z => k _ _ z (.inl h4)), ⟨od, k _ _ hd1 (.inl h4), hd2⟩, Reps.keep k r h5 h6, z, rfl, rfl⟩
  | .exc c y, v, fp, sh, h, hf, hs => by
    unfold Rep at h ⊢
    obtain ⟨a, dx, x, s, kk, e, h1, h3, h2, r, rfl⟩ := h
    exact ⟨a, dx, x, s, kk, e, k _ _ h1 (.inl (hs _ (by simp))), fun z => (h3 z).imp fun t1 y => ⟨y.1, k _ _ y.2 (.inr rfl)⟩, k _ _ h2 (.inl (hs _ (by simp))), Rep.keep k r hf (fun b z => hs b (by simp [z])), rfl⟩
  | .hole, v, fp, sh, h, _, _ => by
    unfold Rep at h ⊢
    exact h
  | .cell, v, fp, sh, h, hf, _ => by
    unfold Rep at h ⊢
    obtain ⟨a, o, e, rfl, rfl, ha, st⟩ := h
    exact ⟨a, o, e, rfl, rfl, k _ _ ha (.inl (hf a (by simp))), st⟩
theorem Reps.keep {A : Addr → Prop} (k : ∀ b o, H b = some o → (A b ∨ stat o = true) → H' b = some o) : ∀ {ts : List T} {xs : List V} {fp sh : List Addr}, Reps K ca H ts xs fp sh → (∀ b ∈ fp, A b) → (∀ b ∈ sh, A b) → Reps K ca H' ts xs fp sh
  | [], xs, fp, sh, h, _, _ => by
    unfold Reps at h ⊢
    exact h
  | t :: ts, xs, fp, sh, h, hf, hs => by
    unfold Reps at h ⊢
    obtain ⟨x, r, f1, f2, s1, s2, e, h1, h2, rfl, rfl⟩ := h
    exact ⟨x, r, f1, f2, s1, s2, e, Rep.keep k h1 (fun b z => hf b (List.mem_append_left _ z)) (fun b z => hs b (List.mem_append_left _ z)),
      Reps.keep k h2 (fun b z => hf b (List.mem_append_right _ z)) (fun b z => hs b (List.mem_append_right _ z)), rfl, rfl⟩
end
/-- what is held is tracked, and of a kind that may change -/
def Trk (H : Hp) (a : Addr) : Prop := ∃ o, H a = some o ∧ stat o = false
theorem own_trk {o : Bool} {a : Addr} {f s : List Addr} (h1 : Trk H a) (hf : ∀ b ∈ f, Trk H b) (hs : ∀ b ∈ s, Trk H b) : (∀ b ∈ own o a f, Trk H b) ∧ ∀ b ∈ own (!o) a s, Trk H b :=
  ⟨fun b h => (mem_own.mp h).elim (fun z => z.2 ▸ h1) (hf b), fun b h => (mem_own.mp h).elim (fun z => z.2 ▸ h1) (hs b)⟩
theorem DRep.trk {a : Addr} {k : Bool} {ks : List D} {xs : List V} (h : DRep H a k ks xs) : Trk H a := by
  cases k with
  | false => obtain ⟨kk, h1, h2, h3, _⟩ := h; exact ⟨_, h3, rfl⟩
  | true => obtain ⟨kk, h1, h2, h3, _⟩ := h; exact ⟨_, h3, rfl⟩
theorem Slt.trk {a C dx : Addr} {vs : List (Option V)} (h : SlX.Slt H a C dx vs) : Trk H a := by
  rcases h with ⟨h1, h2⟩ | ⟨h1, h2⟩
  · exact ⟨_, h1, rfl⟩
  · exact ⟨_, h1, rfl⟩
mutual
theorem Rep.trk : ∀ {t : T} {v : V} {fp sh : List Addr}, Rep K ca H t v fp sh → (∀ b ∈ fp, Trk H b) ∧ ∀ b ∈ sh, Trk H b
  | .im d, v, fp, sh, h => by
    unfold Rep at h
    obtain ⟨rfl, rfl, _⟩ := h
    simp
  | .tup ts, v, fp, sh, h => by
    unfold Rep at h
    obtain ⟨a, xs, e, s, r⟩ := h
    exact Reps.trk r
  | .lst o ts, v, fp, sh, h => by
    unfold Rep at h
    obtain ⟨a, xs, f, s, e, r, ⟨ha, rfl, rfl⟩ | ⟨ho, ha, rfl, rfl⟩⟩ := h
    · exact own_trk ⟨_, ha, rfl⟩ (Reps.trk r).1 (Reps.trk r).2
    · exact Reps.trk r
  | .dct o q ks ts, v, fp, sh, h => by
    unfold Rep at h
    obtain ⟨a, xs, f, s, e, ha, r, rfl, rfl⟩ := h
    exact own_trk ha.trk (Reps.trk r).1 (Reps.trk r).2
  | .ins o c fs, v, fp, sh, h => by
    unfold Rep at h
    obtain ⟨a, dx, vs, xs, f, s, e, ha, hd, r, z, rfl, rfl⟩ := h
    have q := own_trk (o := o) (a := dx) hd (Reps.trk r).1 (Reps.trk r).2
    exact own_trk (Slt.trk ha) q.1 q.2
  | .exc c y, v, fp, sh, h => by
    unfold Rep at h
    obtain ⟨a, dx, x, s, kk, e, h1, h3, h2, r, rfl⟩ := h
    refine ⟨(Rep.trk r).1, fun b hb => ?_⟩
    rcases List.mem_cons.mp hb with z | z
    · rw [z]
      exact ⟨_, h1, rfl⟩
    · rcases List.mem_cons.mp z with z | z
      · rw [z]
        exact ⟨_, h2, rfl⟩
      · exact (Rep.trk r).2 b z
  | .hole, v, fp, sh, h => by
    unfold Rep at h
    obtain ⟨rfl, rfl⟩ := h
    simp
  | .cell, v, fp, sh, h => by
    unfold Rep at h
    obtain ⟨a, o, e, rfl, rfl, ha, st⟩ := h
    refine ⟨fun b hb => ?_, by simp⟩
    have e : b = a := by simpa using hb
    subst e
    exact ⟨o, ha, st⟩
theorem Reps.trk : ∀ {ts : List T} {xs : List V} {fp sh : List Addr}, Reps K ca H ts xs fp sh → (∀ b ∈ fp, Trk H b) ∧ ∀ b ∈ sh, Trk H b
  | [], xs, fp, sh, h => by
    unfold Reps at h
    obtain ⟨_, rfl, rfl⟩ := h
    simp
  | t :: ts, xs, fp, sh, h => by
    unfold Reps at h
    obtain ⟨x, r, f1, f2, s1, s2, e, h1, h2, rfl, rfl⟩ := h
    have q1 := Rep.trk h1
    have q2 := Reps.trk h2
    exact ⟨fun b hb => (List.mem_append.mp hb).elim (q1.1 b) (q2.1 b), fun b hb => (List.mem_append.mp hb).elim (q1.2 b) (q2.2 b)⟩
end
mutual
theorem Rep.cleanFp : ∀ {t : T} {v : V} {fp sh : List Addr}, Rep K ca H t v fp sh → T.clean t = true → fp = []
  | .im d, v, fp, sh, h, _ => by
    unfold Rep at h
    exact h.1
  | .tup ts, v, fp, sh, h, c => by
    unfold Rep at h
    obtain ⟨a, xs, e, s, r⟩ := h
    exact Reps.cleanFp r (by simpa [T.clean] using c)
  | .lst o ts, v, fp, sh, h, c => by
    unfold Rep at h
    obtain ⟨a, xs, f, s, e, r, h⟩ := h
    have c' : o = false ∧ T.cleans ts = true := by simpa [T.clean] using c
    rcases h with ⟨ha, rfl, rfl⟩ | ⟨ho, ha, rfl, rfl⟩
    · rw [c'.1, Reps.cleanFp r c'.2]
      rfl
    · exact Reps.cleanFp r c'.2
  | .dct o q ks ts, v, fp, sh, h, c => by
    unfold Rep at h
    obtain ⟨a, xs, f, s, e, ha, r, rfl, rfl⟩ := h
    have c' : o = false ∧ T.cleans ts = true := by simpa [T.clean] using c
    rw [c'.1, Reps.cleanFp r c'.2]
    rfl
  | .ins o k fs, v, fp, sh, h, c => by
    unfold Rep at h
    obtain ⟨a, dx, vs, xs, f, s, e, ha, hd, r, z, rfl, rfl⟩ := h
    have c' : o = false ∧ T.cleans fs = true := by simpa [T.clean] using c
    rw [c'.1, Reps.cleanFp r c'.2]
    rfl
  | .exc c y, v, fp, sh, h, q => by
    unfold Rep at h
    obtain ⟨a, dx, x, s, kk, e, h1, h3, h2, r, rfl⟩ := h
    exact Rep.cleanFp r (by simpa [T.clean] using q)
  | .hole, v, fp, sh, h, _ => by
    unfold Rep at h
    exact h.1
  | .cell, v, fp, sh, h, c => by simp [T.clean] at c
theorem Reps.cleanFp : ∀ {ts : List T} {xs : List V} {fp sh : List Addr}, Reps K ca H ts xs fp sh → T.cleans ts = true → fp = []
  | [], xs, fp, sh, h, _ => by
    unfold Reps at h
    exact h.2.1
  | t :: ts, xs, fp, sh, h, c => by
    unfold Reps at h
    obtain ⟨x, r, f1, f2, s1, s2, e, h1, h2, rfl, rfl⟩ := h
    have c' : T.clean t = true ∧ T.cleans ts = true := by simpa [T.cleans] using c
    rw [Rep.cleanFp h1 c'.1, Reps.cleanFp h2 c'.2]
    rfl
end
theorem own_perm {o : Bool} {a : Addr} {f s f' s' : List Addr} (h : ∀ b, (b ∈ f' ∨ b ∈ s') ↔ (b ∈ f ∨ b ∈ s)) (b : Addr) : (b ∈ own false a f' ∨ b ∈ own true a s') ↔ (b ∈ own o a f ∨ b ∈ own (!o) a s) := by
  simp only [mem_own]
  have := h b
  cases o <;> simp <;> grind
mutual
theorem Rep.frz : ∀ {t : T} {v : V} {fp sh : List Addr}, Rep K ca H t v fp sh → ∃ sh', Rep K ca H (T.frz t) v [] sh' ∧ ∀ b, b ∈ sh' → b ∈ fp ∨ b ∈ sh
  | .im d, v, fp, sh, h => by
    unfold Rep at h
    obtain ⟨rfl, rfl, r⟩ := h
    exact ⟨[], by unfold T.frz Rep; exact ⟨rfl, rfl, r⟩, by simp⟩
  | .tup ts, v, fp, sh, h => by
    unfold Rep at h
    obtain ⟨a, xs, e, s, r⟩ := h
    obtain ⟨s', r', q⟩ := Reps.frz r
    exact ⟨s', by unfold T.frz Rep; exact ⟨a, xs, e, s, r'⟩, q⟩
  | .lst o ts, v, fp, sh, h => by
    unfold Rep at h
    obtain ⟨a, xs, f, s, e, r, h⟩ := h
    obtain ⟨s', r', q⟩ := Reps.frz r
    rcases h with ⟨ha, rfl, rfl⟩ | ⟨ho, ha, rfl, rfl⟩
    · refine ⟨a :: s', by unfold T.frz Rep; exact ⟨a, xs, [], s', e, r', .inl ⟨ha, rfl, rfl⟩⟩, fun b hb => ?_⟩
      simp only [mem_own]
      rcases List.mem_cons.mp hb with z | z
      · cases o <;> simp [z]
      · rcases q b z with z | z <;> simp [z]
    · exact ⟨s', by unfold T.frz Rep; exact ⟨a, xs, [], s', e, r', .inr ⟨rfl, ha, rfl, rfl⟩⟩, q⟩
  | .dct o k ks ts, v, fp, sh, h => by
    unfold Rep at h
    obtain ⟨a, xs, f, s, e, ha, r, rfl, rfl⟩ := h
    obtain ⟨s', r', q⟩ := Reps.frz r
    refine ⟨a :: s', by unfold T.frz Rep; exact ⟨a, xs, [], s', e, ha, r', rfl, rfl⟩, fun b hb => ?_⟩
    simp only [mem_own]
    rcases List.mem_cons.mp hb with z | z
    · cases o <;> simp [z]
    · rcases q b z with z | z <;> simp [z]
  | .ins o k fs, v, fp, sh, h => by
    unfold Rep at h
    obtain ⟨a, dx, vs, xs, f, s, e, ha, hd, r, z, rfl, rfl⟩ := h
    obtain ⟨s', r', q⟩ := Reps.frz r
    refine ⟨a :: dx :: s', by
      unfold T.frz Rep
      refine ⟨a, dx, vs, xs, [], s', e, ha, hd, r', fun i t x h1 h2 h3 => ?_, rfl, rfl⟩
      obtain ⟨t0, e1, e2⟩ := frzs_get h1
      exact z i t0 x e1 (fun w => h2 (by rw [e2, w]; rfl)) h3, fun b hb => ?_⟩
    simp only [mem_own]
    rcases List.mem_cons.mp hb with z | z
    · cases o <;> simp [z]
    · rcases List.mem_cons.mp z with z | z
      · cases o <;> simp [z]
      · rcases q b z with z | z <;> simp [z]
  | .exc c y, v, fp, sh, h => by
    unfold Rep at h
    obtain ⟨a, dx, x, s, kk, e, h1, h3, h2, r, rfl⟩ := h
    obtain ⟨s', r', q⟩ := Rep.frz r
    refine ⟨a :: dx :: s', by unfold T.frz Rep; exact ⟨a, dx, x, s', kk, e, h1, h3, h2, r', rfl⟩, fun b hb => ?_⟩
    rcases List.mem_cons.mp hb with z | z
    · simp [z]
    · rcases List.mem_cons.mp z with z | z
      · simp [z]
      · rcases q b z with z | z <;> simp [z]
  | .hole, v, fp, sh, h => by
    unfold Rep at h
    exact ⟨[], by unfold T.frz Rep; exact ⟨rfl, rfl⟩, by simp⟩
  | .cell, v, fp, sh, h => ⟨[], by unfold T.frz Rep; exact ⟨rfl, rfl⟩, by simp⟩
theorem Reps.frz : ∀ {ts : List T} {xs : List V} {fp sh : List Addr}, Reps K ca H ts xs fp sh → ∃ sh', Reps K ca H (T.frzs ts) xs [] sh' ∧ ∀ b, b ∈ sh' → b ∈ fp ∨ b ∈ sh
  | [], xs, fp, sh, h => by
    unfold Reps at h
    exact ⟨[], by unfold T.frzs Reps; exact ⟨h.1, rfl, rfl⟩, by simp⟩
  | t :: ts, xs, fp, sh, h => by
    unfold Reps at h
    obtain ⟨x, r, f1, f2, s1, s2, e, h1, h2, rfl, rfl⟩ := h
    obtain ⟨s1', r1, q1⟩ := Rep.frz h1
    obtain ⟨s2', r2, q2⟩ := Reps.frz h2
    refine ⟨s1' ++ s2', by unfold T.frzs Reps; exact ⟨x, r, [], [], s1', s2', e, r1, r2, rfl, rfl⟩, fun b hb => ?_⟩
    simp only [List.mem_append]
    rcases List.mem_append.mp hb with z | z
    · rcases q1 b z with z | z <;> simp [z]
    · rcases q2 b z with z | z <;> simp [z]
end
end
end EV
set_option Elab.async false
set_option linter.all false
set_option maxRecDepth 100000
set_option maxHeartbeats 2000000
namespace EV
open PySem PySem.Spec L2
open PyProof.Rows hiding St
section
variable {P : Program} {w : World} {K : PySem.W.Frag} {mg mb : Str → Option Value} {k : Nat} {fa a : Addr} {fd : FuncData} {x : Str} {sp : L2.Sp} {s₁ : Shared} {vs : List Value} {ns : List Int}
/-- what the judge wants of a law's end -/
abbrev LawEnd (s₁ : Shared) (r : Result) (s' : Shared) : Prop := r = .ok (.ret (.bool true)) ∧ OldK s₁.heap s'.heap ∧ s'.os = s₁.os ∧ AllBare s'.gens
/-- from an abstract heap in which nothing but the script may be tracked -/
theorem law_core (KX : K.In s₁.heap) (hns : s₁.heap.Ns mainGlobals mg) (hb : s₁.heap.Ns builtinsNs mb) (hbb : ∀ y : Str, y ≠ "__name__" → mb y = bootBuiltins y) (hlim : s₁.heap.NoLimit) (hg : s₁.gens = #[])
    (ha : s₁.heap.get? a = some { cls := .type "list", data := .seq vs.toArray }) (hr : Room k callerA) (F : ∀ base : Heap, K.In base → base.Ns mainGlobals mg → FnG P w K mg base k fa fd [x] sp)
    (hbind : ∀ (s : Shared) (u : Value), BindsTo s fd ⟨[u], []⟩ [(x, u)]) {H : Hp} (hO : Only H) (hp : sp [.ref a] H (fun v _ => v = .bl true) fun _ _ _ => False) (hok : HOk P w H s₁.heap) (hA : ∀ b, H b ≠ none → b = a) (hK : H a ≠ none → K.lookup a = none) :
    codeAny (model P w) callerA (.call (.ref fa) ⟨[.ref a], []⟩) (LawEnd s₁) s₁ := by
  have hid : ∀ b o, s₁.heap.get? b = some o → H b = none → (hidT s₁.heap H).get? b = some o := fun b o e n => hidT_get e n
  have dictN : ∀ b o es ep, s₁.heap.get? b = some o → o.data = .dict es ep → H b = none := fun b o es ep e d => by
    by_cases q : H b = none
    · exact q
    · have z := hA b q
      rw [z, ha] at e
      cases e
      cases (show Data.seq vs.toArray _ = Data.dict es ep from d)
  have kns : ∀ {b : Addr} {m : Str → Option Value}, s₁.heap.Ns b m → (hidT s₁.heap H).Ns b m := fun {b m} z => by
    obtain ⟨o, es, ep, e, d, r⟩ := z
    exact ⟨o, es, ep, hid b o e (dictN b o es ep e d), d, r⟩
  have kin : K.In (hidT s₁.heap H) := fun b o e => hid b o (KX b o e) (by
    by_cases q : H b = none
    · exact q
    · have z := hA b q
      rw [z] at q e
      rw [hK q] at e
      cases e)
  have M : Mod K mg (hidT s₁.heap H) := by
    obtain ⟨mc, h1, h2⟩ := hlim
    exact ⟨kin, kns hns, ⟨mb, kns hb, hbb⟩, ⟨mc, kns h1, h2⟩⟩
  have nm : ∀ b : Addr, b ∉ ([] : List Addr) := fun b z => nomatch z
  have e0 : Env0 P w K mg (hidT s₁.heap H) callerA [] s₁ H := ⟨rfl, M, fun b o e => of_hidT e, Nat.le_of_eq (hidT_size _ _), trivial, fun b z => (nm b z).elim, hok, .of_eq hg⟩
  refine codeAny_mono ((F _ kin (kns hns)).run callerA [] s₁ H ⟨[.ref a], []⟩ [.ref a] [.ref a] _ _ rfl hr e0 (hbind s₁ (.ref a)) (.cons rfl .nil) hp) fun r s' z => ?_
  rcases r with er | fl
  · obtain ⟨_, _, _, _, _, _, _, _, _, _, _, _, z⟩ := z
    exact z.elim
  · rcases fl with _ | _ | _ | u
    all_goals first
      | exact False.elim z
      | skip
    obtain ⟨v, H', os, bare, un, hok', r', q⟩ := z
    obtain rfl : v = .bl true := q
    obtain rfl : u = Value.bool true := r'
    refine ⟨rfl, OldK.of_keep fun b o e => ?_, os, bare⟩
    rcases hO b with z | ⟨ob, xs, z⟩
    · exact un.keep b o e z (nm b) (nm b)
    · have e1 := (hok b _ z).1
      have e2 := (hok' b _ (un.frzs b ob _ z)).1
      rw [e] at e1
      cases e1
      exact e2
theorem law_callG (KX : K.In s₁.heap) (hns : s₁.heap.Ns mainGlobals mg) (hb : s₁.heap.Ns builtinsNs mb) (hbb : ∀ y : Str, y ≠ "__name__" → mb y = bootBuiltins y) (hlim : s₁.heap.NoLimit) (hg : s₁.gens = #[])
    (ha : s₁.heap.get? a = some { cls := .type "list", data := .seq vs.toArray }) (hi : IntsAre vs ns) (hl : ns.length ≤ sizeLine) (hr : Room k callerA) (F : ∀ base : Heap, K.In base → base.Ns mainGlobals mg → FnG P w K mg base k fa fd [x] sp)
    (hbind : ∀ (s : Shared) (u : Value), BindsTo s fd ⟨[u], []⟩ [(x, u)]) (hsp : ∀ H : Hp, Only H → FzL K H a (ns.map V.int) → sp [.ref a] H (fun v _ => v = .bl true) fun _ _ _ => False) :
    codeAny (model P w) callerA (.call (.ref fa) ⟨[.ref a], []⟩) (LawEnd s₁) s₁ := by
  have rv := vals_ints hi
  have lenV := hi.length
  cases hk : K.lookup a with
  | some o =>
    have e := KX a o hk
    rw [ha] at e
    cases e
    have hO : Only (fun _ => none) := fun _ => Or.inl rfl
    refine law_core KX hns hb hbb hlim hg ha hr F hbind hO (hsp _ hO (Or.inr ⟨vs, _, hk, ?_, rv⟩)) (fun b u z => by cases (show (none : Option HO) = some u from z)) (fun b z => (z rfl).elim) fun z => (z rfl).elim
    rw [lenV]
    exact hl
  | none =>
    let H : Hp := fun b => if b = a then some (.frz { cls := .type "list", data := .seq vs.toArray } (.lst (ns.map V.int))) else none
    have h1 : H a = some (.frz { cls := .type "list", data := .seq vs.toArray } (.lst (ns.map V.int))) := if_pos rfl
    have h2 : ∀ b, b ≠ a → H b = none := fun b z => if_neg z
    have hO : Only H := fun b => by
      by_cases z : b = a
      · rw [z]
        exact Or.inr ⟨_, _, h1⟩
      · exact Or.inl (h2 b z)
    refine law_core (H := H) KX hns hb hbb hlim hg ha hr F hbind hO (hsp H hO (Or.inl ⟨_, h1⟩)) (fun b u z => ?_) (fun b z => ?_) fun _ => hk
    · by_cases y : b = a
      · subst y
        rw [h1] at z
        cases z
        exact ⟨ha, by rw [List.length_map]; exact hl, vs, _, rv, ha⟩
      · rw [h2 b y] at z
        cases z
    · by_cases y : b = a
      · exact y
      · exact (z (h2 b y)).elim
end
/-- the walk of a law, from its promise -/
theorem walk_ofG {l : PySem.W.OpenLaw} {n k : Nat} {q : Program} {loose : List Str} {XP : (Str → Option Value) → Heap → Prop} {YP : World → Heap → Prop} {d : DefRec} {x : Str} (hn : l.most = some n) (hn2 : n ≤ sizeLine) (hdf : d.params.defaults = []) (hr : Room k callerA)
    (F : ∀ (w : World) (mg : Str → Option Value) (fa : Addr) (h : Heap), YP w h → h.Ns mainGlobals mg → mg d.name = some (.ref fa) → ∃ (K : PySem.W.Frag) (fd : FuncData) (sp : L2.Sp), K.In h ∧ (∀ (s : Shared) (u : Value), BindsTo s fd ⟨[u], []⟩ [(x, u)]) ∧
        (∀ (H : Hp) (a : Addr) (ns : List Int), ns.length ≤ n → Only H → FzL K H a (ns.map V.int) → sp [.ref a] H (fun v _ => v = .bl true) fun _ _ _ => False) ∧ ∀ base : Heap, K.In base → base.Ns mainGlobals mg → FnG l.prog w K mg base k fa fd [x] sp) :
    PySem.W.WalkO q loose XP YP l.row.toRowW d [] (fun f vs => PySem.call f vs) := by
  refine Att.attach_call hn hdf fun w s₀ s₁ mg mb fa o pm cd doc a vs ns G Y ho hd hcd hmg hobj hints hlen hg => ?_
  obtain ⟨K, fd, sp, KX, hb, hs, hF⟩ := F w mg fa _ Y G.T.g hmg
  exact law_callG KX G.T.g G.T.b G.T.builtins G.T.nolimit hg hobj hints (Nat.le_trans hlen hn2) hr hF hb fun H hO hS => hs H a ns hlen hO hS
end EV
set_option Elab.async false
set_option linter.all false
set_option maxRecDepth 100000
set_option maxHeartbeats 2000000
namespace EV
open PySem PySem.Spec L2
open PyProof.Rows hiding St
/-! ### own errors as values -/
section
variable {P : Program} {w : World} {H : Hp} {h : Heap} {k : Option Addr} {C dx a : Addr} {x : V}
theorem excH_at (hok : HOk P w H h) (e : H a = some (excH k C dx a)) : ∃ (oe : Obj) (vs : Array Value), h.get? a = some oe ∧ oe.cls = .ref C ∧ oe.dict = some dx ∧ oe.data = .fields vs ∧ ∀ t1, k = some t1 → vs[0]? = some (.ref t1) := (hok a _ e).1
theorem excH_ok {oe : Obj} {vs : Array Value} (e1 : h.get? a = some oe) (e2 : oe.cls = .ref C) (e3 : oe.dict = some dx) (e4 : oe.data = .fields vs) (e5 : ∀ t1, k = some t1 → vs[0]? = some (.ref t1)) : ObjOk P w H h a (excH k C dx a) :=
  ⟨⟨oe, vs, e1, e2, e3, e4, e5⟩, ⟨_, e1⟩, fun h1 h2 z kp => by
    obtain ⟨oe, vs, q1, q⟩ := z
    exact ⟨oe, vs, kp _ q1, q⟩⟩
end
theorem un_ext {fs : List Addr} {H H' : Hp} {h h' : Heap} (k : ∀ b o, h.get? b = some o → h'.get? b = some o) (ho : ∀ b o, h.get? b = some o → H' b = H b) (ht : ∀ b o, H b = some o → H' b = some o) : Un fs [] H H' h h' := {
  keep := fun b o q n _ _ => k b o q
  slot := fun b o q n _ _ => ⟨o.slots, k b o q⟩
  free := fun b o q n _ => by rw [ho b o q]; exact n
  there := fun b o q _ => ⟨o, k b o q⟩
  tups := fun b xs q => ht _ _ q
  frzs := fun b o v q => ht _ _ q
  tbls := fun b ps q => ⟨#[], by rw [ht _ _ q]; simp⟩ }
section
variable {X : Cx} {e : Expr} {te : TE} {x : Str} {C : Addr} {p pos : Pos}
/-- C(e), held -/
theorem pe_jump (J : JExc X.prog X.K C) (hs : X.mg "super" = none) (hr : Room 0 X.A) (hg : Gl X x) (hm : X.mg x = some (.ref C)) (he : PE X e te) (hns : starEach [e] X.env = (false, eval e X.env) :: starEach [] X.env) (hdb : (x == ("__debug__" : Str)) = false) :
    PE X (.Call (.Name x p) [e] [] pos) (fun σ H Q => te σ H fun v H1 => ∀ a d, H1 a = none → H1 d = none → ∀ t, H1 t = none → a ≠ t → d ≠ t → a ≠ d → Q (.ref a) (upd (upd (upd H1 t (.tup [v])) d (.xd [("value", v)])) a (excH (some t) C d a))) := by
  constructor
  intro pins s σ H Q I h
  refine wpAny_Call_Name_kw (ld_glob I hg hm ?_ hdb)
  refine PySem.W.callWith_K (h₀ := X.base) I.ok.mod.kin J.T.kC ?_ hns (by rfl)
  rw [hns]
  show wpAny _ _ (spliced ((false, eval e X.env) :: backTo pos (starEach [] X.env))) _ _ s
  refine Calls.spliced_cons (thn (he.run pins s σ H _ I h) fun u s1 ⟨v, H1, I1, r1, q1⟩ => ?_)
  refine Calls.spliced_nil ⟨I1.kIn, ?_⟩
  show wpAny _ _ (call (.ref C) [u]) _ _ _
  obtain ⟨hp, g, dr, tk, os⟩ := s1
  refine jump_call J I1.ok.mod (fun b o e => I1.bk _ _ e) hs hr fun h' t' a dx t1 k1 z1 z2 z3 nad e1 e2 e3 => ?_
  have hd1 : H1 dx = none := I1.hok.fresh z2
  have ha1 : H1 a = none := I1.hok.fresh z1
  have ht1 : H1 t1 = none := I1.hok.fresh z3
  have nat : a ≠ t1 := fun z => by
    rw [← z, e1] at e2
    cases e2
  have ndt : dx ≠ t1 := fun z => by
    obtain ⟨oD, es, ep, y1, y2, _⟩ := e3
    rw [z, e2] at y1
    cases y1
    cases y2
  have o1 : ∀ H2, ObjOk X.prog X.w H2 h' t1 (.tup [v]) := fun H2 => ⟨by show 1 ≤ sizeLine; rw [sizeLine_eq]; omega, [u], .cons r1 .nil, ⟨_, e2, rfl, _, rfl⟩⟩
  have o2 : ∀ H2, ObjOk X.prog X.w H2 h' dx (.xd [("value", v)]) := fun H2 => ⟨_, e3, relO_put (fs := []) r1 fun g => True.intro⟩
  have o3 : ∀ H2, ObjOk X.prog X.w H2 h' a (excH (some t1) C dx a) := fun H2 => excH_ok e1 rfl rfl rfl fun t z => by cases z; rfl
  have hd2 : upd H1 t1 (.tup [v]) dx = none := by rw [upd_ne ndt]; exact hd1
  have ha2 : upd (upd H1 t1 (.tup [v])) dx (.xd [("value", v)]) a = none := by rw [upd_ne nad, upd_ne nat]; exact ha1
  have q1' := hok_new I1.hok k1 ht1 (o1 _)
  have q2' := hok_new q1' (fun b o e => e) hd2 (o2 _)
  have q3' := hok_new q2' (fun b o e => e) ha2 (o3 _)
  have ne : ∀ {b c : Addr} {o : Obj}, hp.get? b = some o → hp.objs.size ≤ c → b ≠ c := fun q z => Nat.ne_of_lt (Nat.lt_of_lt_of_le (Heap.lt_size q) z)
  refine ⟨.ref a, _, I1.un (t' := t') (un_ext k1 (fun b o q => ?_) fun b o q => ?_) q3', rfl, q1 a dx ha1 hd1 t1 ht1 nat ndt nad⟩
  · rw [upd_ne (ne q z1), upd_ne (ne q z2), upd_ne (ne q z3)]
  · rw [upd_ne (ne_of_none q ha1), upd_ne (ne_of_none q hd1), upd_ne (ne_of_none q ht1)]
    exact q
/-- e.value -/
theorem pe_valx (hb : attributeBase e "value" X.env (eval e X.env) = eval e X.env) (he : PE X e te) :
    PE X (.Attribute e "value" pos) (fun σ H Q => te σ H fun y H1 => ∃ k a C dx v, y = .ref a ∧ XfC X.K C ∧ PySem.W.findIn X.K (.ref C) "value" = some none ∧ H1 a = some (excH k C dx a) ∧ H1 dx = some (.xd [("value", v)]) ∧ Q v H1) := by
  constructor
  intro pins s σ H Q I h
  refine attr_of hb (thn (he.run pins s σ H _ I h) fun u s1 hh => ?_)
  obtain ⟨y, H1, I1, ry, k, a, C, dx, v, rfl, T, hno, ha, hd, q⟩ := hh
  obtain rfl : u = Value.ref a := ry
  obtain ⟨oe, vs, g1, g2, g3, g4, _⟩ := excH_at I1.hok ha
  obtain ⟨mA, hns, hr⟩ := show ObjOk X.prog X.w H1 s1.heap dx (.xd [("value", v)]) from I1.hok dx _ hd
  obtain ⟨od, ho, hl⟩ := lookIn_ns hns
  obtain ⟨u, hu, ru⟩ := RelO.some_of (v := v) (o := mA "value") (by
    have := hr "value"
    rw [show List.lookup ("value" : Str) [(("value" : Str), v)] = some v by simp [List.lookup]] at this
    exact this)
  have J : PySem.W.InstAt s1.heap a oe C (some od) := ⟨g1, g2, by unfold PySem.W.notCls; rw [g4] <;> rfl, by rw [g3]; exact ho⟩
  exact HandSPX.exc_get I1.kIn J T.ga T.gg T.exC (PySem.W.findObj_own T.hdC hno rfl (by rw [hl, hu])) (handed_of ru) ⟨v, H1, I1.tok _, ru, q⟩
end
end EV
set_option Elab.async false
set_option linter.all false
set_option maxRecDepth 100000
set_option maxHeartbeats 2000000
namespace EV
open PySem PySem.Spec L2
open PyProof.Rows hiding St
section
open PySem.W PySem.Calls
variable {prog : Program} {w : World} {A : Around} {E : Value → Shared → Prop} {s : Shared} {K : Frag} {x D : Addr} {ox : Obj} {od : Option Obj}
theorem find_cls (C : ExcC K D) : findObj K D od "__class__" = some (.bind (.builtin "getset_descriptor.__get__") (.builtin "object.__class__")) := by
  obtain ⟨cd, hc, _⟩ := any_some C.hd
  have e1 := C.ha
  have e2 := C.hn
  have e3 := C.ht
  simp [findObj, hc, e1, e2, e3]
/-- x.__class__, x an own error, with or without fields -/
theorem get_cls {Q : Option Value → Shared → Prop} (C : ExcC K D) (X : K.In s.heap) (I : InstAt s.heap x ox D od) (h : Q (some (.ref D)) { s with toks := s.toks + 1 }) : wpAny (model prog w) A (getAttr? (.ref x) "__class__") Q E s := by
  obtain ⟨hp, g, d, t, os⟩ := s
  have a0 : Looks (model prog w) hp _ _ := I.type
  have a1 : Looks (model prog w) hp _ _ := looks_findIn X C.hg
  have a2 : Looks (model prog w) hp _ _ := looks_findIn X C.hk
  have a3 : Looks (model prog w) hp _ _ := looks_find X I (find_cls C)
  have a4 : Looks (model prog w) hp (isInstance (.ref x) (.type "BaseException")) true := a0.andThen (looks_subIn X C.hs)
  have n1 : (Value.builtin "BaseException.__getattribute__" == Value.builtin "object.__getattribute__") = false := by decide +kernel
  unfold getAttr? getAttrBy? getAttrBy
  refine wpAny_bind (wpAny_mkText (wpAny_bind (wpAny_attempt (wpAny_holding (wpAny_bind (a0.at (wpAny_bind (a1.at (KFB.if_not (by rw [n1]; rfl) ?_)))))))))
  unfold getAttrByItsOwn hookBefore
  refine wpAny_bind (KFB.if_so (c := onTheHeap (Value.ref D)) rfl (a2.at (wpAny_bind (wpAny_attempt (wpAny_holding ?_)))))
  unfold callGetattribute
  refine KFB.if_not (c := false && onTheHeap (Value.builtin "BaseException.__getattribute__")) rfl ?_
  unfold boundAndCalled
  rw [PySem.F.excAttr_ValueError.ga.bind (.ref x)]
  refine wpAny_bind (wpAny_pure (wpAny_call (codeAny_call_builtin PySem.F.excAttr_ValueError.ga.plain PySem.F.entry_bexc_ga (check_slot (M := model prog w) (s := ⟨hp, g, d, t + 1, os⟩) (i := "BaseException.__getattribute__") (owner := "BaseException") (n := "__getattribute__") (self := .ref x) (rest := [.str "__class__" t]) (kw := []) (by decide +kernel) (by decide +kernel) a4 (PySem.F.args_bexc_ga (.ref x) (.str "__class__" t)) ?_))))
  unfold Builtin.«object.__getattribute__»
  refine wpAny_bind (wpAny_of_eq (a := ((Value.ref x : Value), [Value.str "__class__" t])) (by first | rfl | (simp only [slotArgs]; rfl)) (wpAny_bind (wpAny_pure (wpAny_bind (a0.at (wpAny_bind (a3.at ?_)))))))
  refine wpAny_bind (wpAny_holding (wpAny_call (class_get (s := ⟨hp, g, d, t + 1, os⟩) (ox := ox) (od := od) X I C.hm (wpAny_pure ?_))))
  show wpAny _ _ (handedOut (.ref D)) _ _ _
  rw [handedOut_of (v := .ref D) rfl]
  exact wpAny_pure (wpAny_pure h)
/-- how isinstance asks it -/
theorem kitx_own (C : ExcC K D) : KitX K (.ref x) (.ref D) (fun h => ∃ ox od, InstAt h x ox D od) where
  ty := fun _ _ _ ⟨_, _, I⟩ => I.type
  it := fun M h X _ => by
    obtain ⟨cd, hc, _⟩ := any_some C.hd
    unfold clsIn at hc
    split at hc
    · rename_i ho
      intro A Q E s k q
      unfold isType loadHead
      exact wpAny_bind (wpAny_loadPart (k _ _ (X _ _ ho)) (wpAny_pure q))
    · cases hc
  ne := fun h tp dd its n sl X htp => by
    obtain ⟨cd, hc, _⟩ := any_some C.hd
    by_cases z : D = tp
    · subst z
      unfold clsIn at hc
      split at hc
      · rename_i ho
        have y := X _ _ ho
        rw [htp] at y
        cases y
      · cases hc
    · simp [z]
  ca := fun X ⟨_, _, I⟩ k => get_cls C X I k
end
section
/-- isinstance(x, c), x an own error -/
def rIsV (K : PySem.W.Frag) : List V → Hp → VK → Prop := fun xs H Q => ∃ (a D dx : Addr) (k : Option Addr) (c : V) (cv : Value) (b : Bool), xs = [.ref a, c] ∧ ExcC K D ∧ H a = some (excH k D dx a) ∧ (∃ fs, H dx = some (.xd fs)) ∧ (∀ u, RelV c u → u = cv) ∧ PySem.W.kitOne K (.ref D) cv = some b ∧ Q (.bl b) H
theorem call_isV {X : Cx} : CallR X (.builtin "isinstance") (rIsV X.K) := by
  intro pins s σ H xs us Q I r h
  obtain ⟨a, D, dx, k, c, cv, b, rfl, C, ha, ⟨fs, hd⟩, hcv, e, q⟩ := h
  rcases r with _ | ⟨rx, rr⟩
  rcases rr with _ | ⟨rt, rr⟩
  cases rr
  cases rx
  have ec := hcv _ rt
  subst ec
  obtain ⟨oe, vs, g1, g2, g3, g4, _⟩ := excH_at I.hok ha
  obtain ⟨mA, hns, hr⟩ := show ObjOk X.prog X.w H s.heap dx (.xd fs) from I.hok dx _ hd
  obtain ⟨od, ho, hl⟩ := lookIn_ns hns
  have J : PySem.W.InstAt s.heap a oe D (some od) := ⟨g1, g2, by unfold PySem.W.notCls; rw [g4] <;> rfl, by rw [g3]; exact ho⟩
  exact PySem.W.kia_one (kitx_own C) I.kIn ⟨oe, _, J⟩ e (fun z => nomatch z) fun tk => ⟨.bl b, H, I.kept (t' := tk) fun _ _ z => z, rfl, q⟩
end
end EV
set_option Elab.async false
set_option linter.all false
set_option maxRecDepth 100000
namespace EV
open PySem PySem.Spec L2
open PyProof.Rows hiding St

abbrev Prs := List (T × V)
def RepP (K : PySem.W.Frag) (ca : Nat → Addr) (H : Hp) : Prs → List Addr → List Addr → Prop
  | [], fp, sh => fp = [] ∧ sh = []
  | p :: ps, fp, sh => ∃ f1 f2 s1 s2, Rep K ca H p.1 p.2 f1 s1 ∧ RepP K ca H ps f2 s2 ∧ fp = f1 ++ f2 ∧ sh = s1 ++ s2
/-- ps: what is held, each address by one alone; qs: what is looked at -/
def Sp (K : PySem.W.Frag) (ca : Nat → Addr) (H : Hp) (ps qs : Prs) : Prop :=
  ∃ fp sh fq sq, RepP K ca H ps fp sh ∧ fp.Nodup ∧ (∀ a ∈ sh, a ∉ fp) ∧ RepP K ca H qs fq sq ∧ ∀ a ∈ sq, a ∉ fp

section
variable {K : PySem.W.Frag} {ca : Nat → Addr} {H H' : Hp} {ps qs rs : Prs} {t u : T} {v : V} {a : Addr}
theorem RepP.keep {A : Addr → Prop} (k : ∀ b o, H b = some o → (A b ∨ stat o = true) → H' b = some o) : ∀ {ps : Prs} {fp sh : List Addr}, RepP K ca H ps fp sh → (∀ b ∈ fp, A b) → (∀ b ∈ sh, A b) → RepP K ca H' ps fp sh
  | [], _, _, h, _, _ => h
  | p :: ps, fp, sh, ⟨f1, f2, s1, s2, h1, h2, e1, e2⟩, hf, hs => by
    subst e1 e2
    exact ⟨f1, f2, s1, s2, Rep.keep k h1 (fun b z => hf b (List.mem_append_left _ z)) (fun b z => hs b (List.mem_append_left _ z)),
      RepP.keep k h2 (fun b z => hf b (List.mem_append_right _ z)) (fun b z => hs b (List.mem_append_right _ z)), rfl, rfl⟩
theorem RepP.trk : ∀ {ps : Prs} {fp sh : List Addr}, RepP K ca H ps fp sh → (∀ b ∈ fp, Trk H b) ∧ ∀ b ∈ sh, Trk H b
  | [], _, _, ⟨e1, e2⟩ => by subst e1 e2; simp
  | p :: ps, fp, sh, ⟨f1, f2, s1, s2, h1, h2, e1, e2⟩ => by
    subst e1 e2
    have q1 := Rep.trk h1
    have q2 := RepP.trk h2
    exact ⟨fun b hb => (List.mem_append.mp hb).elim (q1.1 b) (q2.1 b), fun b hb => (List.mem_append.mp hb).elim (q1.2 b) (q2.2 b)⟩
theorem RepP.append : ∀ {ps qs : Prs} {f1 s1 f2 s2 : List Addr}, RepP K ca H ps f1 s1 → RepP K ca H qs f2 s2 → RepP K ca H (ps ++ qs) (f1 ++ f2) (s1 ++ s2)
  | [], _, _, _, _, _, ⟨e1, e2⟩, h => by subst e1 e2; exact h
  | p :: ps, qs, _, _, f2, s2, ⟨g1, g2, r1, r2, h1, h2, e1, e2⟩, h => by
    subst e1 e2
    refine ⟨g1, g2 ++ f2, r1, r2 ++ s2, h1, RepP.append h2 h, by simp, by simp⟩
theorem RepP.split : ∀ {ps qs : Prs} {fp sh : List Addr}, RepP K ca H (ps ++ qs) fp sh → ∃ f1 s1 f2 s2, RepP K ca H ps f1 s1 ∧ RepP K ca H qs f2 s2 ∧ fp = f1 ++ f2 ∧ sh = s1 ++ s2
  | [], _, fp, sh, h => ⟨[], [], fp, sh, ⟨rfl, rfl⟩, h, rfl, rfl⟩
  | p :: ps, qs, _, _, ⟨g1, g2, r1, r2, h1, h2, e1, e2⟩ => by
    obtain ⟨f1, s1, f2, s2, a1, a2, a3, a4⟩ := RepP.split h2
    subst e1 e2 a3 a4
    exact ⟨g1 ++ f1, r1 ++ s1, f2, s2, ⟨g1, f1, r1, s1, h1, a1, rfl, rfl⟩, a2, by simp, by simp⟩
theorem RepP.perm {ps qs : Prs} (p : ps.Perm qs) : ∀ {fp sh : List Addr}, RepP K ca H ps fp sh → ∃ fp' sh', RepP K ca H qs fp' sh' ∧ fp.Perm fp' ∧ ∀ b, b ∈ sh' → b ∈ sh := by
  induction p with
  | nil => exact fun h => ⟨_, _, h, .refl _, fun _ z => z⟩
  | cons x _ ih =>
    rintro fp sh ⟨f1, f2, s1, s2, h1, h2, rfl, rfl⟩
    obtain ⟨f', s', r, q1, q2⟩ := ih h2
    refine ⟨f1 ++ f', s1 ++ s', ⟨f1, f', s1, s', h1, r, rfl, rfl⟩, q1.append_left _, fun b hb => ?_⟩
    rcases List.mem_append.mp hb with z | z
    · exact List.mem_append_left _ z
    · exact List.mem_append_right _ (q2 b z)
  | swap x y l =>
    rintro fp sh ⟨f1, f2, s1, s2, h1, ⟨g1, g2, r1, r2, h3, h4, rfl, rfl⟩, rfl, rfl⟩
    refine ⟨g1 ++ (f1 ++ g2), r1 ++ (s1 ++ r2), ⟨g1, f1 ++ g2, r1, s1 ++ r2, h3, ⟨f1, g2, s1, r2, h1, h4, rfl, rfl⟩, rfl, rfl⟩, ?_, fun b hb => ?_⟩
    · rw [← List.append_assoc, ← List.append_assoc]
      exact List.perm_append_comm.append_right _
    · simp only [List.mem_append] at hb ⊢
      rcases hb with z | z | z
      · exact .inr (.inl z)
      · exact .inl z
      · exact .inr (.inr z)
  | trans _ _ i1 i2 =>
    intro fp sh h
    obtain ⟨f1, s1, r1, p1, q1⟩ := i1 h
    obtain ⟨f2, s2, r2, p2, q2⟩ := i2 r1
    exact ⟨f2, s2, r2, p1.trans p2, fun b z => q1 b (q2 b z)⟩
theorem reps_zip : ∀ {ts : List T} {xs : List V} {fp sh : List Addr}, Reps K ca H ts xs fp sh ↔ ts.length = xs.length ∧ RepP K ca H (ts.zip xs) fp sh
  | [], xs, fp, sh => by
    cases xs <;> simp [Reps, RepP]
  | t :: ts, xs, fp, sh => by
    constructor
    · intro h
      unfold Reps at h
      obtain ⟨x, r, f1, f2, s1, s2, rfl, h1, h2, rfl, rfl⟩ := h
      obtain ⟨e, h3⟩ := reps_zip.mp h2
      exact ⟨by simp [e], f1, f2, s1, s2, h1, h3, rfl, rfl⟩
    · rintro ⟨e, h⟩
      cases xs with
      | nil => simp at e
      | cons x r =>
        obtain ⟨f1, f2, s1, s2, h1, h2, rfl, rfl⟩ := h
        unfold Reps
        exact ⟨x, r, f1, f2, s1, s2, rfl, h1, reps_zip.mpr ⟨by simpa using e, h2⟩, rfl, rfl⟩

/-! ### rules of what is held -/
theorem Sp.mono (h : Sp K ca H ps qs) (k : ∀ b o, H b = some o → H' b = some o) : Sp K ca H' ps qs := by
  obtain ⟨fp, sh, fq, sq, h1, h2, h3, h4, h5⟩ := h
  have k' : ∀ b o, H b = some o → (True ∨ stat o = true) → H' b = some o := fun b o e _ => k b o e
  exact ⟨fp, sh, fq, sq, RepP.keep (A := fun _ => True) k' h1 (fun _ _ => trivial) (fun _ _ => trivial), h2, h3, RepP.keep (A := fun _ => True) k' h4 (fun _ _ => trivial) (fun _ _ => trivial), h5⟩
theorem Sp.perm {ps' : Prs} (h : Sp K ca H ps qs) (p : ps.Perm ps') : Sp K ca H ps' qs := by
  obtain ⟨fp, sh, fq, sq, h1, h2, h3, h4, h5⟩ := h
  obtain ⟨fp', sh', r, q1, q2⟩ := RepP.perm p h1
  exact ⟨fp', sh', fq, sq, r, q1.nodup h2, fun a z w => h3 a (q2 a z) (q1.mem_iff.mpr w), h4, fun a z w => h5 a z (q1.mem_iff.mpr w)⟩
theorem Sp.permq {qs' : Prs} (h : Sp K ca H ps qs) (p : qs.Perm qs') : Sp K ca H ps qs' := by
  obtain ⟨fp, sh, fq, sq, h1, h2, h3, h4, h5⟩ := h
  obtain ⟨fq', sq', r, q1, q2⟩ := RepP.perm p h4
  exact ⟨fp, sh, fq', sq', h1, h2, h3, r, fun a z => h5 a (q2 a z)⟩
theorem Sp.dropq (h : Sp K ca H ps (qs ++ rs)) : Sp K ca H ps rs := by
  obtain ⟨fp, sh, fq, sq, h1, h2, h3, h4, h5⟩ := h
  obtain ⟨f1, s1, f2, s2, r1, r2, rfl, rfl⟩ := RepP.split h4
  exact ⟨fp, sh, f2, s2, h1, h2, h3, r2, fun a z => h5 a (List.mem_append_right _ z)⟩
theorem Sp.noq (h : Sp K ca H ps qs) : Sp K ca H ps [] := by
  have : Sp K ca H ps (qs ++ []) := by simpa using h
  exact this.dropq
theorem Sp.drop (h : Sp K ca H (ps ++ rs) qs) : Sp K ca H rs qs := by
  obtain ⟨fp, sh, fq, sq, h1, h2, h3, h4, h5⟩ := h
  obtain ⟨f1, s1, f2, s2, r1, r2, rfl, rfl⟩ := RepP.split h1
  exact ⟨f2, s2, fq, sq, r2, (List.nodup_append.mp h2).2.1, fun a z w => h3 a (List.mem_append_right _ z) (List.mem_append_right _ w), h4, fun a z w => h5 a z (List.mem_append_right _ w)⟩
theorem Sp.drop1 {p : T × V} (h : Sp K ca H (p :: ps) qs) : Sp K ca H ps qs := Sp.drop (ps := [p]) h
/-- what is held is looked at -/
theorem Sp.peek1 {p : T × V} (h : Sp K ca H (p :: ps) qs) : Sp K ca H (p :: ps) (p :: qs) := by
  obtain ⟨fp, sh, fq, sq, h1, h2, h3, h4, h5⟩ := h
  obtain ⟨f1, f2, s1, s2, r1, r2, rfl, rfl⟩ := id h1
  refine ⟨_, _, f1 ++ fq, s1 ++ sq, h1, h2, h3, ⟨f1, fq, s1, sq, r1, h4, rfl, rfl⟩, fun a z => ?_⟩
  rcases List.mem_append.mp z with z | z
  · exact h3 a (List.mem_append_left _ z)
  · exact h5 a z
theorem Sp.peek {p : T × V} (h : Sp K ca H ps qs) (hp : p ∈ ps) : Sp K ca H ps (p :: qs) := by
  obtain ⟨l, r, rfl⟩ := List.append_of_mem hp
  have q : (l ++ p :: r).Perm (p :: (l ++ r)) := List.perm_middle
  exact (h.perm q).peek1.perm q.symm
theorem Sp.peekAll (h : Sp K ca H (rs ++ ps) qs) : Sp K ca H (rs ++ ps) (rs ++ qs) := by
  obtain ⟨fp, sh, fq, sq, h1, h2, h3, h4, h5⟩ := h
  obtain ⟨f1, s1, f2, s2, r1, r2, rfl, rfl⟩ := RepP.split h1
  refine ⟨_, _, f1 ++ fq, s1 ++ sq, h1, h2, h3, RepP.append r1 h4, fun a z => ?_⟩
  rcases List.mem_append.mp z with z | z
  · exact h3 a (List.mem_append_left _ z)
  · exact h5 a z
/-- what is looked at and never changes may be held, too -/
theorem Sp.hold (h : Sp K ca H ps ((t, v) :: qs)) (c : T.clean t = true) : Sp K ca H ((t, v) :: ps) qs := by
  obtain ⟨fp, sh, fq, sq, h1, h2, h3, ⟨f1, f2, s1, s2, r1, r2, rfl, rfl⟩, h5⟩ := h
  have e := Rep.cleanFp r1 c
  subst e
  refine ⟨fp, s1 ++ sh, f2, s2, ⟨[], fp, s1, sh, r1, h1, rfl, rfl⟩, h2, fun a z => ?_, r2, fun a z => h5 a (List.mem_append_right _ z)⟩
  rcases List.mem_append.mp z with z | z
  · exact h5 a (List.mem_append_left _ z)
  · exact h3 a z
theorem RepP.cleanFp : ∀ {ps : Prs} {fp sh : List Addr}, RepP K ca H ps fp sh → (∀ p ∈ ps, T.clean p.1 = true) → fp = []
  | [], _, _, h, _ => h.1
  | p :: ps, _, _, ⟨f1, f2, s1, s2, h1, h2, rfl, rfl⟩, c => by
    rw [Rep.cleanFp h1 (c p (by simp)), RepP.cleanFp h2 fun q hq => c q (by simp [hq])]
    rfl
theorem Sp.holds (h : Sp K ca H ps (rs ++ qs)) (c : ∀ p ∈ rs, T.clean p.1 = true) : Sp K ca H (rs ++ ps) qs := by
  obtain ⟨fp, sh, fq, sq, h1, h2, h3, h4, h5⟩ := h
  obtain ⟨f1, s1, f2, s2, r1, r2, rfl, rfl⟩ := RepP.split h4
  have e := RepP.cleanFp r1 c
  subst e
  refine ⟨fp, s1 ++ sh, f2, s2, RepP.append r1 h1, h2, fun a z => ?_, r2, fun a z => h5 a (List.mem_append_right _ z)⟩
  rcases List.mem_append.mp z with z | z
  · exact h5 a (List.mem_append_left _ z)
  · exact h3 a z
theorem Sp.frz (h : Sp K ca H ((t, v) :: ps) qs) : Sp K ca H ((T.frz t, v) :: ps) qs := by
  obtain ⟨fp, sh, fq, sq, ⟨f1, f2, s1, s2, r1, r2, rfl, rfl⟩, h2, h3, h4, h5⟩ := h
  obtain ⟨s', r, q⟩ := Rep.frz r1
  obtain ⟨n1, n2, n3⟩ := List.nodup_append.mp h2
  refine ⟨[] ++ f2, s' ++ s2, fq, sq, ⟨[], f2, s', s2, r, r2, rfl, rfl⟩, n2, fun a z w => ?_, h4, fun a z w => h5 a z (List.mem_append_right _ w)⟩
  rcases List.mem_append.mp z with z | z
  · rcases q a z with z | z
    · exact n3 a z a w rfl
    · exact h3 a (List.mem_append_left _ z) (List.mem_append_right _ w)
  · exact h3 a (List.mem_append_right _ z) (List.mem_append_right _ w)
/-- a new object of one's own -/
theorem mono_upd {p : Addr} {o : HO} (hp : H p = none) : ∀ b u, H b = some u → upd H p o b = some u := fun b u e => by
  rw [upd_ne (ne_of_none e hp)]
  exact e
theorem Sp.newCell {p : Addr} {o : HO} (h : Sp K ca H ps qs) (hp : H p = none) (so : stat o = false) : Sp K ca (upd H p o) ((.cell, .ref p) :: ps) qs := by
  have m := h.mono (mono_upd (o := o) hp)
  obtain ⟨fp, sh, fq, sq, h1, h2, h3, h4, h5⟩ := h
  have nt : ∀ b, Trk H b → b ≠ p := fun b ⟨o, e, _⟩ z => by rw [z, hp] at e; cases e
  have k' : ∀ b u, H b = some u → (True ∨ stat u = true) → upd H p o b = some u := fun b u e _ => mono_upd hp b u e
  have kk := RepP.keep (A := fun _ => True) k' h1 (fun _ _ => trivial) (fun _ _ => trivial)
  refine ⟨[p] ++ fp, [] ++ sh, fq, sq, ⟨[p], fp, [], sh, by unfold Rep; exact ⟨p, o, rfl, rfl, rfl, upd_same, so⟩, kk, rfl, rfl⟩, ?_, fun a z w => ?_, RepP.keep (A := fun _ => True) k' h4 (fun _ _ => trivial) (fun _ _ => trivial), fun a z w => ?_⟩
  · exact List.nodup_cons.mpr ⟨fun z => nt p (h1.trk.1 p z) rfl, h2⟩
  · rcases List.mem_append.mp w with w | w
    · exact nt a (h1.trk.2 a z) (by simpa using w)
    · exact h3 a z w
  · rcases List.mem_append.mp w with w | w
    · exact nt a (h4.trk.2 a z) (by simpa using w)
    · exact h5 a z w
/-- a cell of one's own is written: what else is held stays -/
theorem Sp.write {o : HO} (h : Sp K ca H ((.cell, .ref a) :: ps) []) (so : stat o = false) : Sp K ca (upd H a o) ((.cell, .ref a) :: ps) [] := by
  obtain ⟨fp, sh, fq, sq, ⟨f1, f2, s1, s2, r1, r2, rfl, rfl⟩, h2, h3, h4, h5⟩ := h
  unfold Rep at r1
  obtain ⟨b, o', e, rfl, rfl, hb, sb⟩ := r1
  cases e
  have k' : ∀ b u, H b = some u → (b ≠ a ∨ stat u = true) → upd H a o b = some u := fun b u e z => by
    by_cases hba : b = a
    · subst hba
      rw [hb] at e
      cases e
      rcases z with z | z
      · exact absurd rfl z
      · rw [sb] at z; cases z
    · rw [upd_ne hba]; exact e
  obtain ⟨n1, n2, n3⟩ := List.nodup_append.mp h2
  have kk := RepP.keep (A := fun b => b ≠ a) k' r2 (fun b z w => n3 a (by simp) b z w.symm) (fun b z w => h3 b (List.mem_append_right _ z) (by rw [w]; simp))
  exact ⟨[a] ++ f2, [] ++ s2, [], [], ⟨[a], f2, [], s2, by unfold Rep; exact ⟨a, o, rfl, rfl, rfl, upd_same, so⟩, kk, rfl, rfl⟩, h2, fun b z w => h3 b z w, ⟨rfl, rfl⟩, by simp⟩
theorem Sp.cellAt (h : Sp K ca H ((.cell, .ref a) :: ps) qs) : ∃ o, H a = some o ∧ stat o = false := by
  obtain ⟨fp, sh, fq, sq, ⟨f1, f2, s1, s2, r1, r2, rfl, rfl⟩, h2, h3, h4, h5⟩ := h
  unfold Rep at r1
  obtain ⟨b, o', e, rfl, rfl, hb, sb⟩ := r1
  cases e
  exact ⟨o', hb, sb⟩
/-! ### lists -/
theorem Sp.openL {ts : List T} (h : Sp K ca H ((.lst true ts, v) :: ps) qs) : ∃ a xs, v = .ref a ∧ H a = some (.lst xs) ∧ ts.length = xs.length ∧ Sp K ca H ((.cell, .ref a) :: (ts.zip xs ++ ps)) qs := by
  obtain ⟨fp, sh, fq, sq, ⟨f1, f2, s1, s2, r1, r2, rfl, rfl⟩, h2, h3, h4, h5⟩ := h
  unfold Rep at r1
  obtain ⟨a, xs, f, s, rfl, r, ⟨ha, e1, e2⟩ | ⟨ho, _⟩⟩ := r1
  case inr => cases ho
  obtain rfl : f1 = a :: f := e1
  obtain rfl : s1 = s := e2
  obtain ⟨e, r⟩ := reps_zip.mp r
  refine ⟨a, xs, rfl, ha, e, a :: f ++ f2, s1 ++ s2, fq, sq, ⟨[a], f ++ f2, [], s1 ++ s2, by unfold Rep; exact ⟨a, _, rfl, rfl, rfl, ha, rfl⟩, RepP.append r r2, by simp, rfl⟩, h2, h3, h4, h5⟩
theorem Sp.closeL {ts : List T} {xs : List V} (h : Sp K ca H ((.cell, .ref a) :: (ts.zip xs ++ ps)) qs) (e : ts.length = xs.length) (ha : H a = some (.lst xs)) : Sp K ca H ((.lst true ts, .ref a) :: ps) qs := by
  obtain ⟨fp, sh, fq, sq, ⟨f1, f2, s1, s2, r1, r2, rfl, rfl⟩, h2, h3, h4, h5⟩ := h
  unfold Rep at r1
  obtain ⟨b, o', e', rfl, rfl, hb, sb⟩ := r1
  cases e'
  obtain ⟨g1, q1, g2, q2, w1, w2, rfl, rfl⟩ := RepP.split r2
  refine ⟨(a :: g1) ++ g2, q1 ++ q2, fq, sq, ⟨a :: g1, g2, q1, q2, ?_, w2, rfl, rfl⟩, by simpa using h2, fun b z w => h3 b (by simpa using z) (by simpa using w), h4, fun b z w => h5 b z (by simpa using w)⟩
  unfold Rep
  exact ⟨a, xs, g1, q1, rfl, reps_zip.mpr ⟨e, w1⟩, .inl ⟨ha, rfl, rfl⟩⟩
/-- a list looked at: its items -/
theorem Sp.itemsL {o : Bool} {ts : List T} (h : Sp K ca H ps ((.lst o ts, v) :: qs)) : ∃ a xs, v = .ref a ∧ LsA K H a xs ∧ ts.length = xs.length ∧ Sp K ca H ps (ts.zip xs ++ qs) := by
  obtain ⟨fp, sh, fq, sq, h1, h2, h3, ⟨f1, f2, s1, s2, r1, r2, rfl, rfl⟩, h5⟩ := h
  unfold Rep at r1
  obtain ⟨a, xs, f, s, rfl, r, h⟩ := r1
  obtain ⟨e, r⟩ := reps_zip.mp r
  rcases h with ⟨ha, rfl, rfl⟩ | ⟨ho, ha, rfl, rfl⟩
  · refine ⟨a, xs, rfl, .inl ha, e, fp, sh, f ++ f2, s ++ s2, h1, h2, h3, RepP.append r r2, fun b z => h5 b ?_⟩
    rcases List.mem_append.mp z with z | z
    · exact List.mem_append_left _ (mem_own.mpr (.inr z))
    · exact List.mem_append_right _ z
  · exact ⟨a, xs, rfl, .inr ha, e, fp, sh, _, _, h1, h2, h3, RepP.append r r2, h5⟩
/-- .. of one's own -/
theorem Sp.itemsO {ts : List T} (h : Sp K ca H ps ((.lst true ts, v) :: qs)) : ∃ a xs, v = .ref a ∧ H a = some (.lst xs) ∧ ts.length = xs.length ∧ Sp K ca H ps (ts.zip xs ++ qs) := by
  obtain ⟨fp, sh, fq, sq, h1, h2, h3, ⟨f1, f2, s1, s2, r1, r2, rfl, rfl⟩, h5⟩ := h
  unfold Rep at r1
  obtain ⟨a, xs, f, s, rfl, r, ⟨ha, rfl, rfl⟩ | ⟨ho, _⟩⟩ := r1
  case inr => cases ho
  obtain ⟨e, r⟩ := reps_zip.mp r
  refine ⟨a, xs, rfl, ha, e, fp, sh, _, _, h1, h2, h3, RepP.append r r2, h5⟩
/-! ### tuples -/
theorem repDs_len : ∀ {ds : List D} {xs : List V}, RepDs K H ds xs → ds.length = xs.length
  | [], xs, h => by unfold RepDs at h; simp [h]
  | d :: ds, xs, h => by
    unfold RepDs at h
    obtain ⟨x, r, rfl, _, h2⟩ := h
    simp [repDs_len h2]
theorem repDs_im : ∀ {ds : List D} {xs : List V}, RepDs K H ds xs ↔ Reps K ca H (ds.map T.im) xs [] []
  | [], xs => by simp [RepDs, Reps]
  | d :: ds, xs => by
    constructor
    · intro h
      unfold RepDs at h
      obtain ⟨x, r, e, h1, h2⟩ := h
      rw [List.map_cons]
      unfold Reps
      refine ⟨x, r, [], [], [], [], e, ?_, repDs_im.mp h2, rfl, rfl⟩
      unfold Rep
      exact ⟨rfl, rfl, h1⟩
    · intro h
      rw [List.map_cons] at h
      unfold Reps at h
      obtain ⟨x, r, f1, f2, s1, s2, e, h1, h2, h3, h4⟩ := h
      unfold Rep at h1
      obtain ⟨rfl, rfl, h1⟩ := h1
      obtain rfl : f2 = [] := by simpa using h3.symm
      obtain rfl : s2 = [] := by simpa using h4.symm
      unfold RepDs
      exact ⟨x, r, e, h1, repDs_im.mpr h2⟩
theorem Reps.im_nil : ∀ {ds : List D} {xs : List V} {fp sh : List Addr}, Reps K ca H (ds.map T.im) xs fp sh → fp = [] ∧ sh = []
  | [], xs, fp, sh, h => by unfold List.map Reps at h; exact h.2
  | d :: ds, xs, fp, sh, h => by
    rw [List.map_cons] at h
    unfold Reps at h
    obtain ⟨x, r, f1, f2, s1, s2, e, h1, h2, rfl, rfl⟩ := h
    unfold Rep at h1
    obtain ⟨rfl, rfl⟩ := Reps.im_nil h2
    obtain ⟨rfl, rfl, _⟩ := h1
    exact ⟨rfl, rfl⟩
/-- a tuple in either form: what it is of -/
def tupOf : T → Option (List T)
  | .im (.tup ds) => some (ds.map T.im)
  | .tup ts => some ts
  | _ => none
theorem tupOf_mk (ts : List T) : tupOf (mkTup ts) = some ts := by
  unfold mkTup
  cases e : datas ts with
  | none => rfl
  | some ds =>
    rw [datas_some e]
    rfl
theorem Rep.tup {t : T} {ts : List T} {fp sh : List Addr} (e : tupOf t = some ts) : Rep K ca H t v fp sh ↔ ∃ a xs, v = .ref a ∧ SqT K H a xs ∧ Reps K ca H ts xs fp sh := by
  cases t with
  | im d =>
    cases d with
    | tup ds =>
      have e' : ds.map T.im = ts := Option.some.inj e
      subst e'
      unfold Rep RepD
      constructor
      · rintro ⟨rfl, rfl, a, xs, h1, h2, h3⟩
        exact ⟨a, xs, h1, h2, repDs_im.mp h3⟩
      · rintro ⟨a, xs, h1, h2, h3⟩
        obtain ⟨rfl, rfl⟩ := Reps.im_nil h3
        exact ⟨rfl, rfl, a, xs, h1, h2, repDs_im.mpr h3⟩
    | _ => cases e
  | tup us =>
    have e' : us = ts := Option.some.inj e
    subst e'
    unfold Rep
    exact Iff.rfl
  | _ => cases e
theorem Sp.itemsT {ts : List T} (h : Sp K ca H ps ((t, v) :: qs)) (e : tupOf t = some ts) : ∃ a xs, v = .ref a ∧ SqT K H a xs ∧ ts.length = xs.length ∧ Sp K ca H ps (ts.zip xs ++ qs) := by
  obtain ⟨fp, sh, fq, sq, h1, h2, h3, ⟨f1, f2, s1, s2, r1, r2, rfl, rfl⟩, h5⟩ := h
  obtain ⟨a, xs, rfl, ha, r⟩ := (Rep.tup e).mp r1
  obtain ⟨e, r⟩ := reps_zip.mp r
  exact ⟨a, xs, rfl, ha, e, fp, sh, f1 ++ f2, s1 ++ s2, h1, h2, h3, RepP.append r r2, h5⟩
theorem Sp.openT {ts : List T} (h : Sp K ca H ((t, v) :: ps) qs) (e : tupOf t = some ts) : ∃ a xs, v = .ref a ∧ SqT K H a xs ∧ ts.length = xs.length ∧ Sp K ca H (ts.zip xs ++ ps) qs := by
  obtain ⟨fp, sh, fq, sq, ⟨f1, f2, s1, s2, r1, r2, rfl, rfl⟩, h2, h3, h4, h5⟩ := h
  obtain ⟨a, xs, rfl, ha, r⟩ := (Rep.tup e).mp r1
  obtain ⟨e, r⟩ := reps_zip.mp r
  exact ⟨a, xs, rfl, ha, e, f1 ++ f2, s1 ++ s2, fq, sq, RepP.append r r2, h2, h3, h4, h5⟩
theorem Sp.closeT {ts : List T} {xs : List V} (h : Sp K ca H (ts.zip xs ++ ps) qs) (e : ts.length = xs.length) (ha : SqT K H a xs) : Sp K ca H ((mkTup ts, .ref a) :: ps) qs := by
  obtain ⟨fp, sh, fq, sq, r2, h2, h3, h4, h5⟩ := h
  obtain ⟨g1, q1, g2, q2, w1, w2, rfl, rfl⟩ := RepP.split r2
  exact ⟨g1 ++ g2, q1 ++ q2, fq, sq, ⟨g1, g2, q1, q2, (Rep.tup (tupOf_mk ts)).mpr ⟨a, xs, rfl, ha, reps_zip.mpr ⟨e, w1⟩⟩, w2, rfl, rfl⟩, h2, h3, h4, h5⟩
/-- a new list, a new tuple -/
theorem Sp.newL {ts : List T} {xs : List V} {p : Addr} (h : Sp K ca H (ts.zip xs ++ ps) qs) (e : ts.length = xs.length) (hp : H p = none) : Sp K ca (upd H p (.lst xs)) ((.lst true ts, .ref p) :: ps) qs :=
  (h.newCell hp (o := .lst xs) rfl).closeL e upd_same
theorem Sp.newT {ts : List T} {xs : List V} {p : Addr} (h : Sp K ca H (ts.zip xs ++ ps) qs) (e : ts.length = xs.length) (hp : H p = none) : Sp K ca (upd H p (.tup xs)) ((mkTup ts, .ref p) :: ps) qs :=
  (h.mono (mono_upd (o := .tup xs) hp)).closeT e (SqT.of upd_same)
/-- what data are -/
theorem Sp.dat {d : D} (h : Sp K ca H ps ((.im d, v) :: qs)) : RepD K H d v := by
  obtain ⟨fp, sh, fq, sq, h1, h2, h3, ⟨f1, f2, s1, s2, r1, r2, rfl, rfl⟩, h5⟩ := h
  unfold Rep at r1
  exact r1.2.2
theorem Sp.addD {d : D} (h : Sp K ca H ps qs) (r : RepD K H d v) : Sp K ca H ((.im d, v) :: ps) qs := by
  obtain ⟨fp, sh, fq, sq, h1, h2, h3, h4, h5⟩ := h
  exact ⟨fp, sh, fq, sq, ⟨[], fp, [], sh, by unfold Rep; exact ⟨rfl, rfl, r⟩, h1, rfl, rfl⟩, h2, h3, h4, h5⟩
theorem Sp.addDq {d : D} (h : Sp K ca H ps qs) (r : RepD K H d v) : Sp K ca H ps ((.im d, v) :: qs) := by
  obtain ⟨fp, sh, fq, sq, h1, h2, h3, h4, h5⟩ := h
  exact ⟨fp, sh, fq, sq, h1, h2, h3, ⟨[], fq, [], sq, by unfold Rep; exact ⟨rfl, rfl, r⟩, h4, rfl, rfl⟩, h5⟩
theorem Sp.int {i : Int} (h : Sp K ca H ps ((.im (.int i), v) :: qs)) : v = .int i := by
  have := h.dat
  unfold RepD at this
  exact this
theorem Sp.bl {b : Bool} (h : Sp K ca H ps ((.im (.bl b), v) :: qs)) : v = .bl b := by
  have := h.dat
  unfold RepD at this
  exact this
theorem Sp.str {x : Str} (h : Sp K ca H ps ((.im (.str x), v) :: qs)) : v = .str x := by
  have := h.dat
  unfold RepD at this
  exact this
theorem Sp.non (h : Sp K ca H ps ((.im .non, v) :: qs)) : v = .non := by
  have := h.dat
  unfold RepD at this
  exact this
end
end EV
set_option Elab.async false
set_option linter.all false
set_option maxRecDepth 100000
namespace EV
open PySem (Str)

/-! ### the language -/
inductive Bo | add | sub | mul | fdiv | mod | pow
  deriving DecidableEq
inductive Co | eq | ne | lt | le | gt | ge | in_ | nin
  deriving DecidableEq
inductive Bi | len | int | abs | min | max | sum | all | any | list | tuple | dict | sorted | set | str | repr
  deriving DecidableEq
inductive Ty | int | bool | str | tuple | list | dict
  deriving DecidableEq
inductive Me | scount | tcount | lcount | lindex | tindex | sindex | join | split | upper | lstrip | get | get2
  deriving DecidableEq
inductive Mu | append | extend | pop | popAt | insert | remove | update
  deriving DecidableEq

inductive Tg where
  | n (i : Nat)
  | tup (a b : Tg)
  | tup3 (a b c : Tg)
mutual
inductive E where
  | c (d : D)
  | g (x : Str) (t : T)
  | v (i : Nat)
  | mv (i : Nat)
  | tup (es : Es)
  | lst (es : Es)
  | dic (k : Bool)
  | bin (o : Bo) (a b : E)
  | neg (a : E)
  | nt (a : E)
  | cmp (o : Co) (a b : E)
  | chn (o p : Co) (a b c : E)
  | isN (q : Bool) (a : E)
  | and_ (a b : E)
  | or_ (a b : E)
  | ife (t a b : E)
  | idx (a b : E)
  | slc (a : E) (lo hi : Eo)
  | rev (a : E)
  | isi (a : E) (ty : Ty)
  | call (f : Nat) (es : Es)
  | bi (b : Bi) (es : Es)
  | lrg (it : It)
  | me (m : Me) (o : E) (es : Es)
  | mu (m : Mu) (i : Nat) (es : Es)
  | fld (o : E) (k : Nat)
  | new (c : Nat) (f : Nat) (es : Es)
  | lc (e : E) (tg : Tg) (it : It) (ifs : Eo) (own : List Nat)
  | dc (k : Bool) (ke ve : E) (tg : Tg) (it : It) (ifs : Eo) (own : List Nat)
  | fz (a : E)
  | mkx (c : Nat) (a : E)
  | vof (m : Nat) (a : E)
  | isx (a : E) (nm : Str) (cs : List Bool)
  | dk (kvs : List (D × D))
  | rp (nms : List Str) (a : E)
inductive Es where
  | nil
  | one (e : E) (r : Es)
  | star (e : E) (r : Es)
inductive Eo where
  | none
  | some (e : E)
inductive It where
  | e (a : E)
  | rg1 (a : E)
  | rg2 (a b : E)
  | rg3 (a b c : E)
  | enum (a : E)
  | zip (a b : E)
  | items (a : E)
  | vals (a : E)
end

/-! ### what operations give -/
abbrev SL : Nat := 16777216
def mulOk (i j : Int) : Bool := (decide (-(2 ^ 64) < i) && decide (i < 2 ^ 64)) || (decide (-(2 ^ 64) < j) && decide (j < 2 ^ 64))
def rep {α : Type} (xs : List α) (n : Nat) : List α := (List.replicate n xs).flatten
def boF : Bo → T → T → Option T
  | .add, .im (.int i), .im (.int j) => some (.im (.int (i + j)))
  | .add, .im (.str x), .im (.str y) => if x.length + y.length ≤ SL then some (.im (.str (x ++ y))) else none
  | .add, .im (.tup x), .im (.tup y) => if x.length + y.length ≤ SL then some (.im (.tup (x ++ y))) else none
  | .add, .lst _ x, .lst _ y => if T.cleans x && T.cleans y && decide (x.length + y.length ≤ SL) then some (.lst true (x ++ y)) else none
  | .sub, .im (.int i), .im (.int j) => some (.im (.int (i - j)))
  | .mul, .im (.int i), .im (.int j) => if mulOk i j then some (.im (.int (i * j))) else none
  | .mul, .lst true x, .im (.int j) => if T.cleans x && decide (x.length * j.toNat ≤ SL) && decide (-(2 ^ 63) ≤ j) && decide (j < 2 ^ 63) then some (.lst true (rep x j.toNat)) else none
  | .fdiv, .im (.int i), .im (.int j) => if 0 < j ∧ j < 1073741824 then some (.im (.int (i / j))) else none
  | .mod, .im (.int i), .im (.int j) => if 0 < j then some (.im (.int (i % j))) else none
  | .pow, .im (.int i), .im (.int j) => if 0 ≤ j ∧ (PySem.Builtin.Int.intBits i : Int) * j ≤ 2 ^ 27 then some (.im (.int (i ^ j.toNat))) else none
  | _, _, _ => none
mutual
def dep : D → Nat
  | .tup ds => deps ds + 1
  | _ => 0
def deps : List D → Nat
  | [] => 0
  | d :: ds => max (dep d) (deps ds)
end
mutual
/-- as Python's data -/
def dpy : D → PySem.PyData
  | .non => .none
  | .bl b => .bool b
  | .int i => .int i
  | .str s => .str s
  | .tup ds => .tuple (dpys ds)
def dpys : List D → List PySem.PyData
  | [] => []
  | d :: ds => dpy d :: dpys ds
end
mutual
def tpy : T → Option PySem.PyData
  | .im d => some (dpy d)
  | .tup ts => (tpys ts).map .tuple
  | .lst _ ts => (tpys ts).map .list
  | .dct _ false ks ts => (tpys ts).map fun vs => .dict ((dpys ks).zip vs)
  | _ => none
def tpys : List T → Option (List PySem.PyData)
  | [] => some []
  | t :: ts => match tpy t, tpys ts with
    | some d, some ds => some (d :: ds)
    | _, _ => none
end
/-- == of what has lists in lists -/
def deq (t u : T) : Option Bool := match tpy t, tpy u with
  | some x, some y => if x.plain && y.plain && decide (min x.depth y.depth ≤ 100) then some (PySem.PyData.eqv x y) else none
  | _, _ => none
def teq : T → T → Option Bool
  | .im a, .im b => if min (dep a) (dep b) ≤ 100 then some (peq a b) else none
  | .lst o a, .lst p b => match datas a, datas b with
    | some x, some y => if min (deps x) (deps y) ≤ 100 then some (peqs x y) else none
    | _, _ => if a.length = b.length then deq (.lst o a) (.lst p b) else some false
  | .lst _ _, .im _ => some false
  | .im _, .lst _ _ => some false
  | t, u => deq t u
mutual
/-- no list, no dict in it -/
def leafy : PySem.PyData → Bool
  | .list _ => false
  | .dict _ => false
  | .tuple xs => leafys xs
  | _ => true
def leafys : List PySem.PyData → Bool
  | [] => true
  | x :: xs => leafy x && leafys xs
end
def dctOk : PySem.PyData → Bool
  | .dict kvs => leafys (kvs.map (·.1)) && leafys (kvs.map (·.2))
  | d => !d.hasDict
def shD (d : PySem.PyData) : Bool := d.showable && dctOk d && decide (d.depth ≤ 100) && decide (d.shown.length + 200 ≤ SL)
/-- repr of data -/
def shOk (t : T) : Option Str := match tpy t with
  | some d => if shD d = true then some d.shown else none
  | none => none
/-- repr; nms: the names of the error classes -/
def rpF (nms : List Str) : T → Option Str
  | .exc c v => match nms[c / 2]?, shOk v with
      | some n, some x => if c % 2 = 0 ∧ n.length ≤ 90 then some (n ++ PySem.Str.ofString "(" ++ x ++ PySem.Str.ofString ")") else none
      | _, _ => none
  | t => shOk t
def isC : D → Bool
  | .tup _ => false
  | _ => true
def flat : D → Bool
  | .tup _ => false
  | _ => true
def kfind : List D → List T → D → Option T
  | k :: ks, t :: ts, d => if k = d then some t else kfind ks ts d
  | _, _, _ => none
/-- a key of a dict whose keys are intsOf and texts; are tuples of them -/
def isLeaf : D → Bool
  | .int _ => true
  | .str _ => true
  | _ => false
def isKey : Bool → D → Bool
  | false, d => isLeaf d
  | true, _ => false
def strIn (a b : Str) : Bool := !(PySem.Builtin.Str.occurrences b a 0 b.length 1).isEmpty
def inF : T → T → Option Bool
  | .im (.str a), .im (.str b) => some (strIn a b)
  | .im a, .im (.tup ds) => if dep a ≤ 100 then some (ds.any fun d => peq d a) else none
  | .im a, .lst _ ts => if dep a ≤ 100 then (datas ts).map fun ds => ds.any fun d => peq d a else none
  | .im a, .dct _ k ks ts => if isKey k a then some (kfind ks ts a).isSome else none
  | _, _ => none
def coF : Co → T → T → Option Bool
  | .eq, a, b => teq a b
  | .ne, a, b => (teq a b).map (!·)
  | .lt, .im (.int i), .im (.int j) => some (decide (i < j))
  | .le, .im (.int i), .im (.int j) => some (decide (i ≤ j))
  | .gt, .im (.int i), .im (.int j) => some (decide (j < i))
  | .ge, .im (.int i), .im (.int j) => some (decide (j ≤ i))
  | .in_, a, b => inF a b
  | .nin, a, b => (inF a b).map (!·)
  | _, _, _ => none
def truF : T → Option Bool
  | .im .non => some false
  | .im (.bl b) => some b
  | .im (.int i) => some (i != 0)
  | .im (.str s) => if s.length ≤ SL then some (s.length != 0) else none
  | .im (.tup ds) => some (!ds.isEmpty)
  | .lst _ ts => some (!ts.isEmpty)
  | .dct _ false ks ts => some (!ks.isEmpty)
  | _ => none
def getI {α : Type} (xs : List α) (i : Int) : Option α :=
  if 0 ≤ i then xs[i.toNat]? else if -(xs.length : Int) ≤ i then xs[(i + xs.length).toNat]? else none
def idxF : T → T → Option T
  | .im (.tup ds), .im (.int i) => (getI ds i).map T.im
  | .tup ts, .im (.int i) => getI ts i
  | .lst _ ts, .im (.int i) => getI ts i
  | .im (.str s), .im (.int i) => if s.length ≤ SL then (getI s.cps.toList i).map fun c => .im (.str ⟨#[c]⟩) else none
  | .dct _ k ks ts, .im d => if isKey k d then kfind ks ts d else none
  | _, _ => none
def bnd (n : Nat) (i : Int) : Nat := if i < 0 then (i + n).toNat else min i.toNat n
def cut {α : Type} (xs : List α) (lo hi : Option Int) : List α :=
  let a := match lo with | some i => bnd xs.length i | none => 0
  let b := match hi with | some i => bnd xs.length i | none => xs.length
  (xs.drop a).take (b - a)
def slcF : T → Option Int → Option Int → Option T
  | .im (.tup ds), lo, hi => some (.im (.tup (cut ds lo hi)))
  | .lst _ ts, lo, hi => if T.cleans ts then some (.lst true (cut ts lo hi)) else none
  | .im (.str s), lo, hi => if s.length ≤ SL then some (.im (.str ⟨(cut s.cps.toList lo hi).toArray⟩)) else none
  | _, _, _ => none
def revF : T → Option T
  | .im (.tup ds) => some (.im (.tup ds.reverse))
  | .lst _ ts => if T.cleans ts then some (.lst true ts.reverse) else none
  | _ => none
def isiF : Ty → T → Option Bool
  | .int, .im (.int _) => some true
  | .int, .im (.bl _) => some true
  | .bool, .im (.bl _) => some true
  | .str, .im (.str _) => some true
  | .tuple, .im (.tup _) => some true
  | .tuple, .tup _ => some true
  | .list, .lst _ _ => some true
  | .dict, .dct _ _ _ _ => some true
  | _, .im _ => some false
  | _, .tup _ => some false
  | _, .lst _ _ => some false
  | _, .dct _ _ _ _ => some false
  | _, _ => none
/-- all ints? -/
def intsOf : List T → Option (List Int)
  | [] => some []
  | .im (.int i) :: ts => (intsOf ts).map (i :: ·)
  | _ :: _ => none
def boolsOf : List T → Option (List Bool)
  | [] => some []
  | .im (.bl b) :: ts => (boolsOf ts).map (b :: ·)
  | _ :: _ => none
def seqF : T → Option (List T)
  | .im (.tup ds) => some (ds.map T.im)
  | .tup ts => some ts
  | .lst _ ts => some ts
  | .im (.str s) => some (s.cps.toList.map fun c => .im (.str ⟨#[c]⟩))
  | _ => none
def lstOf : T → Option (List T)
  | .lst _ ts => some ts
  | _ => none
def seqLT : T → Option (List T)
  | .im (.tup ds) => some (ds.map T.im)
  | .tup ts => some ts
  | .lst _ ts => some ts
  | _ => none
def maxI : List Int → Int
  | [] => 0
  | [a] => a
  | a :: r => max a (maxI r)
def minI : List Int → Int
  | [] => 0
  | [a] => a
  | a :: r => min a (minI r)
def biF : Bi → List T → Option T
  | .len, [.im (.str s)] => if s.length ≤ SL then some (.im (.int s.length)) else none
  | .len, [.im (.tup ds)] => some (.im (.int ds.length))
  | .len, [.tup ts] => some (.im (.int ts.length))
  | .len, [.lst _ ts] => some (.im (.int ts.length))
  | .len, [.dct _ false ks _] => some (.im (.int ks.length))
  | .int, [.im (.int i)] => some (.im (.int i))
  | .int, [.im (.bl b)] => some (.im (.int (b2i b)))
  | .abs, [.im (.int i)] => some (.im (.int (if i < 0 then -i else i)))
  | .min, [.im (.int i), .im (.int j)] => some (.im (.int (if j < i then j else i)))
  | .max, [.im (.int i), .im (.int j)] => some (.im (.int (if j > i then j else i)))
  | .min, [.lst _ ts] => match intsOf ts with
    | some (i :: r) => some (.im (.int (minI (i :: r))))
    | _ => none
  | .max, [.lst _ ts] => match intsOf ts with
    | some (i :: r) => some (.im (.int (maxI (i :: r))))
    | _ => none
  | .sum, [.lst _ ts] => (intsOf ts).map fun is => .im (.int is.sum)
  | .all, [.lst _ ts] => (boolsOf ts).map fun bs => .im (.bl (bs.all id))
  | .any, [.lst _ ts] => (boolsOf ts).map fun bs => .im (.bl (bs.any id))
  | .list, [t] => match seqLT t with
    | some ts => if T.cleans ts then some (.lst true ts) else none
    | none => none
  | .tuple, [t] => match seqLT t with
    | some ts => if T.cleans ts then some (mkTup ts) else none
    | none => none
  | _, _ => none
def meF : Me → T → List T → Option T
  | _, _, _ => none
def muF : Mu → T → List T → Option (T × T)
  | .append, .lst true ts, [x] => if ts.length < SL then some (.lst true (ts ++ [x]), .im .non) else none
  | .extend, .lst true ts, [x] => match seqLT x with
    | some us => if T.cleans us && decide (ts.length + us.length ≤ SL) then some (.lst true (ts ++ us), .im .non) else none
    | none => none
  | .pop, .lst true ts, [] => match ts.getLast? with
    | some x => some (.lst true ts.dropLast, x)
    | none => none
  | _, _, _ => none
/-- of which kind is what a method changes -/
def muTy (m : Mu) (o : Option T) : Bool := match m, o with
  | .update, some (.dct _ _ _ _) => true
  | .update, _ => false
  | _, some (.lst _ _) => true
  | _, _ => false
/-- x[k] = v -/
def dput : List D → List T → D → T → List D × List T
  | k :: ks, t :: ts, d, u => if k = d then (k :: ks, u :: ts) else ((k :: (dput ks ts d u).1), t :: (dput ks ts d u).2)
  | _, _, d, u => ([d], [u])
def setF : T → T → T → Option T
  | .lst true ts, .im (.int i), u => if 0 ≤ i then (if i < ts.length then some (.lst true (ts.set i.toNat u)) else none)
      else if -(ts.length : Int) ≤ i then some (.lst true (ts.set (i + ts.length).toNat u)) else none
  | .dct true k ks ts, .im d, u => if isKey k d && decide (ks.length < SL) then some (.dct true k (dput ks ts d u).1 (dput ks ts d u).2) else none
  | _, _, _ => none

/-! ### evaluating -/
abbrev Env := List (Option T)
def Env.at (τ : Env) (i : Nat) : Option T := (τ[i]?).join
inductive Res (α : Type) where
  | ok (a : α) (τ : Env)
  | exc (c : Nat) (v : T) (τ : Env)
  | bad
def Res.bind {α β : Type} (r : Res α) (k : α → Env → Res β) : Res β := match r with
  | .ok a τ => k a τ
  | .exc c v τ => .exc c v τ
  | .bad => .bad
def ret {α : Type} (o : Option α) (τ : Env) : Res α := match o with
  | some a => .ok a τ
  | none => .bad
@[simp] theorem bind_ok {α β : Type} (a : α) (τ : Env) (k : α → Env → Res β) : (Res.ok a τ).bind k = k a τ := rfl
@[simp] theorem bind_bad {α β : Type} (k : α → Env → Res β) : (Res.bad : Res α).bind k = .bad := rfl
@[simp] theorem bind_exc {α β : Type} (c : Nat) (v : T) (τ : Env) (k : α → Env → Res β) : (Res.exc c v τ : Res α).bind k = .exc c v τ := rfl
@[simp] theorem ret_some {α : Type} (a : α) (τ : Env) : ret (some a) τ = .ok a τ := rfl
@[simp] theorem ret_none {α : Type} (τ : Env) : ret (none : Option α) τ = .bad := rfl
/-- what a def gives: its value, what its parameters hold behind it -/
inductive FRes where
  | ok (t : T) (ps : List (Option T))
  | exc (c : Nat) (v : T) (ps : List (Option T))
  | bad
abbrev Call := Nat → List T → FRes
inductive Arg where
  | val (t : T)
  | ref (i : Nat)
def argT (τ : Env) : Arg → Option T
  | .val t => some t
  | .ref i => τ.at i
def argTs (τ : Env) : List Arg → Option (List T)
  | [] => some []
  | a :: as => match argT τ a, argTs τ as with
    | some t, some ts => some (t :: ts)
    | _, _ => none
def refs : List Arg → List Nat
  | [] => []
  | .val _ :: as => refs as
  | .ref i :: as => i :: refs as
def putBack : List Arg → List (Option T) → Env → Env
  | .ref i :: as, p :: ps, τ => putBack as ps (τ.set i p)
  | .val _ :: as, _ :: ps, τ => putBack as ps τ
  | _, _, τ => τ
def goCall (r : List T → FRes) (as : List Arg) (τ : Env) : Res T :=
  if (refs as).Nodup then match argTs τ as with
    | some ts => match r ts with
      | .ok t ps => if ps.length = as.length then .ok t (putBack as ps τ) else .bad
      | .exc c v ps => if ps.length = as.length then .exc c v (putBack as ps τ) else .bad
      | .bad => .bad
    | none => .bad
  else .bad
/-- two operands; the first may be a name that is looked at late -/
def two (a : E) (ra rb : Env → Res T) (τ : Env) : Res (T × T) := match a with
  | .v i => match τ.at i with
    | some _ => (rb τ).bind fun tb τ1 => ret ((τ1.at i).map fun ta => (ta, tb)) τ1
    | none => .bad
  | _ => (ra τ).bind fun ta τ1 => (rb τ1).bind fun tb τ2 => .ok (ta, tb) τ2
/-- does nothing but look at a name, a number -/
def quiet : E → Bool
  | .c _ => true
  | .v _ => true
  | .neg (.c _) => true
  | _ => false
def pick (pk : Bool) (t : T) (τ : Env) : Res T := if pk || T.clean t then .ok t τ else .bad
def asgT : Tg → T → Env → Option Env
  | .n i, t, τ => if i < τ.length then some (τ.set i (some t)) else none
  | .tup a b, t, τ => match tupOf t with
    | some [x, y] => (asgT a x τ).bind (asgT b y)
    | _ => none
  | .tup3 a b c, t, τ => match tupOf t with
    | some [x, y, z] => ((asgT a x τ).bind (asgT b y)).bind (asgT c z)
    | _ => none
def wip (own : List Nat) (τ : Env) : Env := own.foldl (fun τ i => τ.set i none) τ
def unwip (own : List Nat) (τ τ' : Env) : Env := own.foldl (fun t i => t.set i (τ.at i)) τ'
def noExc {α : Type} : Res α → Res α
  | .exc _ _ _ => .bad
  | r => r
def lcGo (own : List Nat) (step : T → Env → Res (Option T)) : List T → List T → Env → Res (List T)
  | [], acc, τ => .ok acc τ
  | t :: r, acc, τ => (step t (wip own τ)).bind fun o τ' => match o with
    | some x => if acc.length < SL then lcGo own step r (acc ++ [x]) τ' else .bad
    | none => lcGo own step r acc τ'
def dcGo (own : List Nat) (k : Bool) (step : T → Env → Res (Option (D × T))) : List T → List D → List T → Env → Res (List D × List T)
  | [], ks, ts, τ => .ok (ks, ts) τ
  | t :: r, ks, ts, τ => (step t (wip own τ)).bind fun o τ' => match o with
    | some (d, x) => if isKey k d && decide (ks.length < SL) then dcGo own k step r (dput ks ts d x).1 (dput ks ts d x).2 τ' else .bad
    | none => dcGo own k step r ks ts τ'
def rng (lo : Int) (n : Nat) : List T := (List.range n).map fun i => .im (.int (lo + (i : Nat)))
def inR (i : Int) : Bool := decide (-(2 ^ 62) ≤ i) && decide (i < 2 ^ 62)
def enumL : Nat → List T → List T
  | _, [] => []
  | n, t :: ts => mkTup [.im (.int n), t] :: enumL (n + 1) ts
def zipL : List T → List T → List T
  | a :: as, b :: bs => mkTup [a, b] :: zipL as bs
  | _, _ => []
def datum : T → Option D
  | .im d => some d
  | _ => none
def intOf : T → Option Int
  | .im (.int i) => some i
  | _ => none

mutual
/-- pk: only looked at, at once; otherwise the value may be held -/
def evX (cl : Call) (pk : Bool) : E → Env → Res T
  | .c d, τ => .ok (.im d) τ
  | .g _ t, τ => pick false t τ
  | .v i, τ => match τ.at i with
    | some t => if pk || T.clean t then .ok t τ else .ok (T.frz t) (τ.set i (some (T.frz t)))
    | none => .bad
  | .mv i, τ => match τ.at i with
    | some t => .ok t (τ.set i none)
    | none => .bad
  | .tup es, τ => (evL cl es τ).bind fun ts τ => if ts.length ≤ SL then .ok (mkTup ts) τ else .bad
  | .lst es, τ => (evL cl es τ).bind fun ts τ => if ts.length ≤ SL then .ok (.lst true ts) τ else .bad
  | .dic k, τ => .ok (.dct true k [] []) τ
  | .bin o a b, τ => (two a (evX cl false a) (evX cl true b) τ).bind fun p τ => ret (boF o p.1 p.2) τ
  | .neg a, τ => (evX cl true a τ).bind fun t τ => ret ((intOf t).map fun i => .im (.int (-i))) τ
  | .nt a, τ => (evX cl true a τ).bind fun t τ => ret ((truF t).map fun b => .im (.bl (!b))) τ
  | .cmp o a b, τ => (two a (evX cl false a) (evX cl true b) τ).bind fun p τ => ret ((coF o p.1 p.2).map fun b => .im (.bl b)) τ
  | .chn o p a b c, τ => (two a (evX cl false a) (evX cl false b) τ).bind fun q τ => match coF o q.1 q.2 with
    | some true => (evX cl true c τ).bind fun tc τ => ret ((coF p q.2 tc).map fun b => .im (.bl b)) τ
    | some false => .ok (.im (.bl false)) τ
    | none => .bad
  | .isN q a, τ => (evX cl true a τ).bind fun t τ => match t with
    | .im d => .ok (.im (.bl (q ^^ decide (d = .non)))) τ
    | .tup _ => .ok (.im (.bl q)) τ
    | .lst _ _ => .ok (.im (.bl q)) τ
    | .dct _ _ _ _ => .ok (.im (.bl q)) τ
    | _ => .bad
  | .and_ a b, τ => (evX cl pk a τ).bind fun t τ => match t with
    | .im (.bl true) => evX cl pk b τ
    | .im (.bl false) => .ok (.im (.bl false)) τ
    | _ => .bad
  | .or_ a b, τ => (evX cl pk a τ).bind fun t τ => match t with
    | .im (.bl false) => evX cl pk b τ
    | .im (.bl true) => .ok (.im (.bl true)) τ
    | _ => .bad
  | .ife t a b, τ => (evX cl true t τ).bind fun t τ => match truF t with
    | some true => evX cl pk a τ
    | some false => evX cl pk b τ
    | none => .bad
  | .idx a b, τ => match a with
    | .v i => match τ.at i with
      | some _ => (evX cl true b τ).bind fun tb τ => match τ.at i with
        | some ta => (ret (idxF ta tb) τ).bind (pick pk)
        | none => .bad
      | none => .bad
    | _ => (evX cl true a τ).bind fun ta τ => if T.clean ta || quiet b then (evX cl true b τ).bind fun tb τ => (ret (idxF ta tb) τ).bind (pick pk) else .bad
  | .slc a lo hi, τ => match a with
    | .v i => match τ.at i with
      | some _ => (evO cl lo τ).bind fun l τ => (evO cl hi τ).bind fun h τ => match τ.at i with
        | some ta => ret (slcF ta l h) τ
        | none => .bad
      | none => .bad
    | _ => (evX cl false a τ).bind fun ta τ => (evO cl lo τ).bind fun l τ => (evO cl hi τ).bind fun h τ => ret (slcF ta l h) τ
  | .rev a, τ => (evX cl true a τ).bind fun t τ => ret (revF t) τ
  | .isi a ty, τ => (evX cl true a τ).bind fun t τ => ret ((isiF ty t).map fun b => .im (.bl b)) τ
  | .call f es, τ => (evA cl es τ).bind fun as τ => goCall (cl f) as τ
  | .bi b es, τ => (evQ cl es τ).bind fun ts τ => ret (biF b ts) τ
  | .lrg it, τ => (evI cl it τ).bind fun ts τ => if ts.length ≤ SL then .ok (.lst true ts) τ else .bad
  | .me m o es, τ => (evX cl false o τ).bind fun t τ => (evQ cl es τ).bind fun ts τ => ret (meF m t ts) τ
  | .mu m i es, τ => if muTy m (τ.at i) then (evL cl es τ).bind fun ts τ => match τ.at i with
    | some t => match muF m t ts with
      | some (t', r) => .ok r (τ.set i (some t'))
      | none => .bad
    | none => .bad
    else .bad
  | .fld o k, τ => (evX cl true o τ).bind fun t τ => match t with
    | .ins _ _ fs => match fs[k]? with
      | some .hole => .bad
      | some t => pick pk t τ
      | none => .bad
    | _ => .bad
  | .new c f es, τ => .bad
  | .lc e tg it ifs own, τ => noExc ((evI cl it τ).bind fun items τ1 =>
      (lcGo own (fun t τ => match asgT tg t τ with
        | some τ => (evT cl ifs τ).bind fun b τ => if b then (evX cl false e τ).bind fun x τ => .ok (some x) τ else .ok none τ
        | none => .bad) items [] τ1).bind fun acc τ2 => .ok (.lst true acc) (unwip own τ1 τ2))
  | .dc k ke ve tg it ifs own, τ => noExc ((evI cl it τ).bind fun items τ1 =>
      (dcGo own k (fun t τ => match asgT tg t τ with
        | some τ => (evT cl ifs τ).bind fun b τ => if b then (evX cl false ke τ).bind fun d τ => (evX cl false ve τ).bind fun x τ => ret ((datum d).map fun d => some (d, x)) τ else .ok none τ
        | none => .bad) items [] [] τ1).bind fun p τ2 => .ok (.dct true k p.1 p.2) (unwip own τ1 τ2))
  | .fz a, τ => (evX cl false a τ).bind fun t τ => .ok (T.frz t) τ
  | .mkx c a, τ => (evX cl false a τ).bind fun t τ => .ok (.exc (2 * c) (T.frz t)) τ
  | .vof m a, τ => (evX cl true a τ).bind fun t τ => match t with
    | .exc c v => if c / 2 < m then pick pk v τ else .bad
    | _ => .bad
  | .isx a _ cs, τ => (evX cl true a τ).bind fun t τ => match t with
    | .exc c _ => match cs[c / 2]? with
      | some b => .ok (.im (.bl b)) τ
      | none => .bad
    | _ => .bad
  | .dk kvs, τ => if (kvs.all fun p => isLeaf p.1 && isC p.2) && decide (kvs.map (·.1)).Nodup then .ok (.dct true false (kvs.map (·.1)) (kvs.map fun p => .im p.2)) τ else .bad
  | .rp nms a, τ => (evX cl true a τ).bind fun t τ => ret ((rpF nms t).map fun s => .im (.str s)) τ
/-- items of a display, of a mutator -/
def evL (cl : Call) : Es → Env → Res (List T)
  | .nil, τ => .ok [] τ
  | .one e r, τ => (evX cl false e τ).bind fun t τ => (evL cl r τ).bind fun ts τ => .ok (t :: ts) τ
  | .star e r, τ => (evX cl false e τ).bind fun t τ => match seqLT t with
    | some us => if T.cleans us then (evL cl r τ).bind fun ts τ => .ok (us ++ ts) τ else .bad
    | none => .bad
/-- arguments of a def -/
def evA (cl : Call) : Es → Env → Res (List Arg)
  | .nil, τ => .ok [] τ
  | .one e r, τ => match e with
    | .v i => match τ.at i with
      | some t => if T.clean t then (evA cl r τ).bind fun as τ => .ok (.val t :: as) τ else (evA cl r τ).bind fun as τ => .ok (.ref i :: as) τ
      | none => .bad
    | _ => (evX cl false e τ).bind fun t τ => (evA cl r τ).bind fun as τ => .ok (.val t :: as) τ
  | .star _ _, _ => .bad
/-- what is looked at: one argument; several, the names late -/
def evQ (cl : Call) : Es → Env → Res (List T)
  | .nil, τ => .ok [] τ
  | .one e .nil, τ => (evX cl true e τ).bind fun t τ => .ok [t] τ
  | .one e r, τ => match e with
    | .v i => match τ.at i with
      | some _ => (evQ cl r τ).bind fun ts τ => ret ((τ.at i).map fun t => t :: ts) τ
      | none => .bad
    | _ => (evX cl false e τ).bind fun t τ => (evQ cl r τ).bind fun ts τ => .ok (t :: ts) τ
  | .star _ _, _ => .bad
def evO (cl : Call) : Eo → Env → Res (Option Int)
  | .none, τ => .ok none τ
  | .some e, τ => (evX cl true e τ).bind fun t τ => ret ((intOf t).map some) τ
def evT (cl : Call) : Eo → Env → Res Bool
  | .none, τ => .ok true τ
  | .some e, τ => (evX cl true e τ).bind fun t τ => ret (truF t) τ
/-- what is walked -/
def evI (cl : Call) : It → Env → Res (List T)
  | .e a, τ => (evX cl false a τ).bind fun t τ => ret (seqF (T.frz t)) τ
  | .rg1 a, τ => (evX cl true a τ).bind fun t τ => match intOf t with
    | some j => if inR j then .ok (rng 0 j.toNat) τ else .bad
    | none => .bad
  | .rg2 a b, τ => (two a (evX cl false a) (evX cl true b) τ).bind fun p τ => match intOf p.1, intOf p.2 with
    | some i, some j => if inR i && inR j then .ok (rng i (j - i).toNat) τ else .bad
    | _, _ => .bad
  | .rg3 _ _ _, _ => .bad
  | .enum a, τ => (evX cl false a τ).bind fun t τ => ret ((seqLT (T.frz t)).map (enumL 0)) τ
  | .zip a b, τ => (evX cl false a τ).bind fun ta τ => (evX cl false b τ).bind fun tb τ => match lstOf (T.frz ta), lstOf (T.frz tb) with
    | some as, some bs => .ok (zipL as bs) τ
    | _, _ => match tupOf (T.frz ta), tupOf (T.frz tb) with
      | some as, some bs => .ok (zipL as bs) τ
      | _, _ => .bad
  | .items _, _ => .bad
  | .vals _, _ => .bad
end
end EV
set_option Elab.async false
set_option linter.all false
set_option maxRecDepth 100000
namespace EV
open PySem PySem.Spec L2
open PyProof.Rows hiding St

/-! ### the slots -/
def prs : Env → St → Prs
  | some t :: τ, some v :: σ => (t, v) :: prs τ σ
  | _ :: τ, _ :: σ => prs τ σ
  | _, _ => []
structure Fits (τ : Env) (σ : St) : Prop where
  len : τ.length = σ.length
  has : ∀ i t, τ.at i = some t → ∃ v, σ[i]? = some (some v)
theorem at_cons0 {o : Option T} {τ : Env} : Env.at (o :: τ) 0 = o := rfl
theorem at_consS {o : Option T} {τ : Env} {i : Nat} : Env.at (o :: τ) (i + 1) = τ.at i := by
  unfold Env.at
  rw [List.getElem?_cons_succ]
theorem at_lt {τ : Env} {i : Nat} {t : T} (h : τ.at i = some t) : i < τ.length := by
  unfold Env.at at h
  cases e : τ[i]? with
  | none => rw [e] at h; cases h
  | some o => exact (List.getElem?_eq_some_iff.mp e).1
theorem at_get {τ : Env} {i : Nat} {t : T} (h : τ.at i = some t) : τ[i]? = some (some t) := by
  unfold Env.at at h
  cases e : τ[i]? with
  | none => rw [e] at h; cases h
  | some o =>
    rw [e] at h
    have h' : o = some t := h
    rw [h']
theorem at_set {τ : Env} {i j : Nat} {o : Option T} : Env.at (τ.set i o) j = if i = j ∧ i < τ.length then o else τ.at j := by
  unfold Env.at
  rw [List.getElem?_set]
  by_cases h : i = j
  · subst h
    by_cases h2 : i < τ.length
    · simp [h2]
    · simp [h2, List.getElem?_eq_none_iff.mpr (by omega : τ.length ≤ i)]
  · simp [h]
theorem Fits.tail {o : Option T} {x : Option V} {τ : Env} {σ : St} (f : Fits (o :: τ) (x :: σ)) : Fits τ σ :=
  ⟨by simpa using f.len, fun i t h => by simpa using f.has (i + 1) t (by rw [at_consS]; exact h)⟩
theorem Fits.setN {τ : Env} {σ : St} (f : Fits τ σ) (i : Nat) : Fits (τ.set i none) σ :=
  ⟨by simpa using f.len, fun j t h => by
    rw [at_set] at h
    split at h
    · cases h
    · exact f.has j t h⟩
theorem Fits.setT {τ : Env} {σ : St} (f : Fits τ σ) {i : Nat} {t0 t : T} (h0 : τ.at i = some t0) : Fits (τ.set i (some t)) σ :=
  ⟨by simpa using f.len, fun j u h => by
    rw [at_set] at h
    split at h
    · rename_i e
      rw [← e.1]
      exact f.has i t0 h0
    · exact f.has j u h⟩
theorem Fits.setV {τ : Env} {σ : St} (f : Fits τ σ) {i : Nat} {o : Option T} {v : V} (hi : i < σ.length) : Fits (τ.set i o) (σ.set i (some v)) :=
  ⟨by simpa using f.len, fun j u h => by
    rw [at_set] at h
    rw [List.getElem?_set]
    by_cases e : i = j
    · subst e
      simp [hi]
    · rw [if_neg (fun z => e z.1)] at h
      simp [e]
      exact f.has j u h⟩
theorem prs_out {i : Nat} {t : T} {v : V} : ∀ {τ : Env} {σ : St}, τ.at i = some t → σ[i]? = some (some v) → (prs τ σ).Perm ((t, v) :: prs (τ.set i none) σ) := by
  induction i with
  | zero =>
    intro τ σ h1 h2
    cases τ with
    | nil => cases h1
    | cons o τ =>
      cases σ with
      | nil => simp at h2
      | cons x σ =>
        have e1 : o = some t := h1
        have e2 : x = some v := by simpa using h2
        subst e1 e2
        exact .refl _
  | succ i ih =>
    intro τ σ h1 h2
    cases τ with
    | nil => cases h1
    | cons o τ =>
      cases σ with
      | nil => simp at h2
      | cons x σ =>
        rw [at_consS] at h1
        have := ih h1 (by simpa using h2)
        cases o with
        | none => exact this
        | some u =>
          cases x with
          | none => exact this
          | some y => exact (this.cons (u, y)).trans (.swap _ _ _)
theorem prs_in {i : Nat} {t : T} {v : V} : ∀ {τ : Env} {σ : St}, i < τ.length → τ.length = σ.length → (prs (τ.set i (some t)) (σ.set i (some v))).Perm ((t, v) :: prs (τ.set i none) σ) := by
  induction i with
  | zero =>
    intro τ σ h1 h2
    cases τ with
    | nil => simp at h1
    | cons o τ =>
      cases σ with
      | nil => simp at h2
      | cons x σ => exact .refl _
  | succ i ih =>
    intro τ σ h1 h2
    cases τ with
    | nil => simp at h1
    | cons o τ =>
      cases σ with
      | nil => simp at h2
      | cons x σ =>
        have := ih (τ := τ) (σ := σ) (by simpa using h1) (by simpa using h2)
        cases o with
        | none => exact this
        | some u =>
          cases x with
          | none => exact this
          | some y => exact (this.cons (u, y)).trans (.swap _ _ _)
theorem prs_put {i : Nat} {t : T} {v : V} {τ : Env} {σ : St} (h : σ[i]? = some (some v)) (hi : i < τ.length) : (prs (τ.set i (some t)) σ).Perm ((t, v) :: prs (τ.set i none) σ) := by
  have h1 : Env.at (τ.set i (some t)) i = some t := by rw [at_set]; simp [hi]
  have := prs_out (v := v) h1 h
  rwa [List.set_set] at this
theorem prs_setσ {i : Nat} {x : Option V} : ∀ {τ : Env} {σ : St}, prs (τ.set i none) (σ.set i x) = prs (τ.set i none) σ := by
  induction i with
  | zero =>
    intro τ σ
    cases τ with
    | nil => simp [prs]
    | cons o τ => cases σ <;> rfl
  | succ i ih =>
    intro τ σ
    cases τ with
    | nil => simp [prs]
    | cons o τ =>
      cases σ with
      | nil => rfl
      | cons y σ =>
        have := ih (τ := τ) (σ := σ)
        cases o with
        | none => exact this
        | some u =>
          cases y with
          | none => exact this
          | some y => exact congrArg ((u, y) :: ·) this
theorem prs_none {i : Nat} {τ : Env} (h : τ.at i = none) : τ.set i none = τ := by
  by_cases hi : i < τ.length
  · refine List.ext_getElem? fun j => ?_
    rw [List.getElem?_set]
    by_cases e : i = j
    · subst e
      have : τ[i]? = some τ[i] := List.getElem?_eq_getElem hi
      unfold Env.at at h
      rw [this] at h
      have h' : τ[i] = none := h
      simp [hi, this, h']
    · simp [e]
  · exact List.set_eq_of_length_le (by omega)

/-! ### what is known where evaluation stands -/
structure Ow (K : PySem.W.Frag) (ca : Nat → Addr) (τ : Env) (σ : St) (Θ : Prs) (H : Hp) : Prop where
  fit : Fits τ σ
  sp : Sp K ca H (prs τ σ ++ Θ) []
structure Got (K : PySem.W.Frag) (ca : Nat → Addr) (pk : Bool) (τ : Env) (σ : St) (Θ : Prs) (H : Hp) (t : T) (v : V) : Prop where
  fit : Fits τ σ
  sp : if pk = true then Sp K ca H (prs τ σ ++ Θ) [(t, v)] else Sp K ca H ((t, v) :: (prs τ σ ++ Θ)) []
def Out {α : Type} (r : Res α) (P : α → Env → Prop) (EX : Nat → T → Env → Prop) : Prop := match r with
  | .ok a τ => P a τ
  | .exc c v τ => EX c v τ
  | .bad => False
theorem Out.bind {α β : Type} {r : Res α} {k : α → Env → Res β} {P : β → Env → Prop} {EX : Nat → T → Env → Prop} (h : Out (r.bind k) P EX) : Out r (fun a τ => Out (k a τ) P EX) EX := by
  cases r <;> exact h
theorem Out.imp {α : Type} {r : Res α} {P P' : α → Env → Prop} {EX EX' : Nat → T → Env → Prop} (h : Out r P EX) (f : ∀ a τ, P a τ → P' a τ) (g : ∀ c v τ, EX c v τ → EX' c v τ) : Out r P' EX' := by
  cases r with
  | ok a τ => exact f a τ h
  | exc c v τ => exact g c v τ h
  | bad => exact h
theorem Out.ret {α : Type} {o : Option α} {τ : Env} {P : α → Env → Prop} {EX : Nat → T → Env → Prop} (h : Out (EV.ret o τ) P EX) : ∃ a, o = some a ∧ P a τ := by
  cases o with
  | none => exact h.elim
  | some a => exact ⟨a, rfl, h⟩
/-- an exception of class c about a, as it leaves -/
def EXC (K : PySem.W.Frag) (ca : Nat → Addr) (W : WX) (σ : St) (Θ : Prs) : Nat → T → Env → Prop := fun c a τ =>
  ∀ d x H, Got K ca false τ σ Θ H a x → H d = some (.xd [("value", x)]) → W (.ref (ca c)) (some d) σ H
section
variable {K : PySem.W.Frag} {ca : Nat → Addr} {τ τ' : Env} {σ : St} {Θ Θ' : Prs} {H H' : Hp} {t u : T} {v x : V} {pk : Bool} {W : WX}
theorem Got.keep (g : Got K ca false τ σ Θ H t v) : Sp K ca H ((t, v) :: (prs τ σ ++ Θ)) [] := by simpa using g.sp
theorem Got.look (g : Got K ca true τ σ Θ H t v) : Sp K ca H (prs τ σ ++ Θ) [(t, v)] := by simpa using g.sp
theorem Got.of (f : Fits τ σ) (h : Sp K ca H ((t, v) :: (prs τ σ ++ Θ)) []) : Got K ca pk τ σ Θ H t v := by
  refine ⟨f, ?_⟩
  cases pk with
  | false => simpa using h
  | true => simpa using h.peek1.drop1
theorem Got.any (g : Got K ca false τ σ Θ H t v) : Got K ca pk τ σ Θ H t v := .of g.fit g.keep
theorem Got.ow (g : Got K ca false τ σ Θ H t v) : Ow K ca τ σ ((t, v) :: Θ) H := ⟨g.fit, g.keep.perm (List.perm_middle.symm)⟩
theorem Got.base (g : Got K ca pk τ σ Θ H t v) : Ow K ca τ σ Θ H := by
  refine ⟨g.fit, ?_⟩
  cases pk with
  | false => exact g.keep.drop1
  | true => exact g.look.noq
theorem Got.down (g : Got K ca pk τ σ (Θ' ++ Θ) H t v) : Got K ca pk τ σ Θ H t v := by
  refine ⟨g.fit, ?_⟩
  have p : ∀ l : Prs, (l ++ (Θ' ++ Θ)).Perm (Θ' ++ (l ++ Θ)) := fun l => by
    rw [← List.append_assoc, ← List.append_assoc]
    exact List.perm_append_comm.append_right _
  cases pk with
  | false => exact (g.keep.perm (p ((t, v) :: prs τ σ))).drop
  | true => exact (g.look.perm (p (prs τ σ))).drop
theorem EXC.up {c : Nat} {a : T} (h : EXC K ca W σ Θ c a τ) : EXC K ca W σ (Θ' ++ Θ) c a τ := fun d x H g e => h d x H g.down e
theorem Ow.slot (o : Ow K ca τ σ Θ H) {i : Nat} (h : τ.at i = some t) : ∃ v, σ[i]? = some (some v) ∧ Sp K ca H ((t, v) :: (prs (τ.set i none) σ ++ Θ)) [] := by
  obtain ⟨v, hv⟩ := o.fit.has i t h
  exact ⟨v, hv, o.sp.perm ((prs_out h hv).append_right _)⟩
theorem Ow.back (f : Fits τ σ) {i : Nat} (hi : i < τ.length) (hv : σ[i]? = some (some v)) (h : Sp K ca H ((t, v) :: (prs (τ.set i none) σ ++ Θ)) []) : Ow K ca (τ.set i (some t)) σ Θ H :=
  ⟨⟨by simpa using f.len, fun j u e => by
    rw [at_set] at e
    split at e
    · rename_i q
      exact ⟨v, q.1 ▸ hv⟩
    · exact f.has j u e⟩, h.perm ((prs_put hv hi).symm.append_right _)⟩
theorem Ow.peek (o : Ow K ca τ σ Θ H) {i : Nat} (h : τ.at i = some t) : ∃ v, σ[i]? = some (some v) ∧ Sp K ca H (prs τ σ ++ Θ) [(t, v)] := by
  obtain ⟨v, hv⟩ := o.fit.has i t h
  refine ⟨v, hv, o.sp.peek (List.mem_append_left _ ?_)⟩
  exact (prs_out h hv).mem_iff.mpr (by simp)
end

/-! ### an expression's reading -/
def tE (K : PySem.W.Frag) (ca : Nat → Addr) (W : WX) (pk : Bool) (m : Env → Res T) : TE := fun σ H Q => ∃ τ Θ, Ow K ca τ σ Θ H ∧
  Out (m τ) (fun t τ' => ∀ v H', Got K ca pk τ' σ Θ H' t v → Q v H') (EXC K ca W σ Θ)
theorem PE.imp {X : Cx} {e : Expr} {t t' : TE} (h : PE X e t) (f : ∀ σ H Q, t' σ H Q → t σ H Q) : PE X e t' := ⟨fun pins s σ H Q I q => h.run pins s σ H Q I (f σ H Q q)⟩
theorem PT.imp {X : Cx} {e : Expr} {t t' : TT} (h : PT X e t) (f : ∀ σ H Q, t' σ H Q → t σ H Q) : PT X e t' := ⟨fun pins s σ H Q I q => h.run pins s σ H Q I (f σ H Q q)⟩
theorem PA.imp {X : Cx} {e : List Expr} {t t' : TA} (h : PA X e t) (f : ∀ σ H Q, t' σ H Q → t σ H Q) : PA X e t' := ⟨fun pos pins s σ H Q I q => h.run pos pins s σ H Q I (f σ H Q q)⟩
theorem PS.imp {X : Cx} {e : Stmt} {t t' : TS} (h : PS X e t) (f : ∀ D σ H, t' D σ H → t D σ H) : PS X e t' := ⟨fun pins s σ H D I q => h.run pins s σ H D I (f D σ H q)⟩
theorem PSs.imp {X : Cx} {e : List Stmt} {t t' : TS} (h : PSs X e t) (f : ∀ D σ H, t' D σ H → t D σ H) : PSs X e t' := ⟨fun pins s σ H D I q => h.run pins s σ H D I (f D σ H q)⟩
section
variable {K : PySem.W.Frag} {ca : Nat → Addr} {W : WX} {pk : Bool}
/-- evaluate, then go on -/
theorem tE.use {m : Env → Res T} {σ : St} {H : Hp} {Q : VK} {τ : Env} {Θ : Prs} {P : T → Env → Prop} (o : Ow K ca τ σ Θ H) (h : Out (m τ) P (EXC K ca W σ Θ))
    (f : ∀ t τ' v H', P t τ' → Got K ca pk τ' σ Θ H' t v → Q v H') : tE K ca W pk m σ H Q :=
  ⟨τ, Θ, o, h.imp (fun t τ' p v H' g => f t τ' v H' p g) fun _ _ _ z => z⟩
/-- .. with more that is held -/
theorem tE.use1 {m : Env → Res T} {σ : St} {H : Hp} {Q : VK} {τ : Env} {Θ Θ' : Prs} {P : T → Env → Prop} (o : Ow K ca τ σ (Θ' ++ Θ) H) (h : Out (m τ) P (EXC K ca W σ Θ))
    (f : ∀ t τ' v H', P t τ' → Got K ca pk τ' σ (Θ' ++ Θ) H' t v → Q v H') : tE K ca W pk m σ H Q :=
  ⟨τ, Θ' ++ Θ, o, h.imp (fun t τ' p v H' g => f t τ' v H' p g) fun _ _ _ z => z.up⟩
/-- by values: what is looked at, what comes -/
def rPF (K : PySem.W.Frag) (ca : Nat → Addr) (f : List T → Option T) : List V → Hp → VK → Prop := fun xs H Q => ∃ ts ps qs t, ts.length = xs.length ∧ Sp K ca H ps (ts.zip xs ++ qs) ∧ f ts = some t ∧ ∀ v H', Sp K ca H' ((t, v) :: ps) [] → Q v H'
def rP2 (K : PySem.W.Frag) (ca : Nat → Addr) (f : T → T → Option T) : R2 := fun x y H Q => ∃ t u ps qs r, Sp K ca H ps ((t, x) :: (u, y) :: qs) ∧ f t u = some r ∧ ∀ v H', Sp K ca H' ((r, v) :: ps) [] → Q v H'
def rP1 (K : PySem.W.Frag) (ca : Nat → Addr) (f : T → Option T) : V → Hp → VK → Prop := fun x H Q => ∃ t ps qs r, Sp K ca H ps ((t, x) :: qs) ∧ f t = some r ∧ ∀ v H', Sp K ca H' ((r, v) :: ps) [] → Q v H'
end
end EV
set_option Elab.async false
set_option linter.all false
set_option maxRecDepth 100000
namespace EV
open PySem PySem.Spec L2
open PyProof.Rows hiding St
open SeqAt (EqAt RcAt RcNeAt)

/-! ### == -/
mutual
def RD (h : Heap) : D → Value → Prop
  | .non, u => u = .none
  | .bl b, u => u = .bool b
  | .int i, u => ∃ t, u = .int i t
  | .str x, u => ∃ t, u = .str x t
  | .tup ds, u => ∃ a its, u = .ref a ∧ h.IsTuple a its.toArray ∧ RDs h ds its
def RDs (h : Heap) : List D → List Value → Prop
  | [], us => us = []
  | d :: ds, us => ∃ u r, us = u :: r ∧ RD h d u ∧ RDs h ds r
end
section
variable {h : Heap}
theorem isTuple_inj {a : Addr} {x y : List Value} (p : h.IsTuple a x.toArray) (q : h.IsTuple a y.toArray) : x = y := by
  obtain ⟨o, e, c, n, d⟩ := p
  obtain ⟨o', e', c', n', d'⟩ := q
  rw [e] at e'; cases e'
  rw [d] at d'
  injection d' with d1 _
  simpa using congrArg Array.toList d1
mutual
theorem RD.inj : ∀ {d e : D} {u : Value}, RD h d u → RD h e u → d = e
  | .non, e, u, p, q => by
    unfold RD at p; subst p
    cases e <;> unfold RD at q <;> first | rfl | (cases q; done) | (obtain ⟨_, q⟩ := q; cases q; done) | (obtain ⟨_, _, q, _⟩ := q; cases q; done)
  | .bl b, e, u, p, q => by
    unfold RD at p; subst p
    cases e <;> unfold RD at q <;> first | (cases q; rfl) | (cases q; done) | (obtain ⟨_, q⟩ := q; cases q; done) | (obtain ⟨_, _, q, _⟩ := q; cases q; done)
  | .int i, e, u, p, q => by
    unfold RD at p; obtain ⟨t, rfl⟩ := p
    cases e <;> unfold RD at q <;> first | (cases q; done) | (obtain ⟨_, q⟩ := q; cases q; rfl) | (obtain ⟨_, q⟩ := q; cases q; done) | (obtain ⟨_, _, q, _⟩ := q; cases q; done)
  | .str i, e, u, p, q => by
    unfold RD at p; obtain ⟨t, rfl⟩ := p
    cases e <;> unfold RD at q <;> first | (cases q; done) | (obtain ⟨_, q⟩ := q; cases q; rfl) | (obtain ⟨_, q⟩ := q; cases q; done) | (obtain ⟨_, _, q, _⟩ := q; cases q; done)
  | .tup ds, e, u, p, q => by
    unfold RD at p; obtain ⟨a, x, rfl, p1, p2⟩ := p
    cases e with
    | tup es =>
      unfold RD at q
      obtain ⟨b, y, e, q1, q2⟩ := q
      cases e
      have := isTuple_inj p1 q1
      subst this
      rw [RDs.inj p2 q2]
    | int i => unfold RD at q; obtain ⟨_, q⟩ := q; cases q
    | str i => unfold RD at q; obtain ⟨_, q⟩ := q; cases q
    | non => unfold RD at q; cases q
    | bl b => unfold RD at q; cases q
theorem RDs.inj : ∀ {ds es : List D} {us : List Value}, RDs h ds us → RDs h es us → ds = es
  | [], es, us, p, q => by
    unfold RDs at p; subst p
    cases es with
    | nil => rfl
    | cons e es => unfold RDs at q; obtain ⟨_, _, q, _⟩ := q; cases q
  | d :: ds, es, us, p, q => by
    unfold RDs at p; obtain ⟨u, r, rfl, p1, p2⟩ := p
    cases es with
    | nil => unfold RDs at q; cases q
    | cons e es =>
      unfold RDs at q
      obtain ⟨u', r', e', q1, q2⟩ := q
      cases e'
      rw [RD.inj p1 q1, RDs.inj p2 q2]
end
theorem RDs.len : ∀ {ds : List D} {us : List Value}, RDs h ds us → us.length = ds.length
  | [], us, p => by unfold RDs at p; subst p; rfl
  | d :: ds, us, p => by
    unfold RDs at p; obtain ⟨u, r, rfl, p1, p2⟩ := p
    simp [RDs.len p2]
end
def pairQ (xs ys : List D) (j : Nat) : Bool := match xs[j]?, ys[j]? with
  | some a, some b => peq a b
  | _, _ => false
theorem peqs_range : ∀ xs ys : List D, ((List.range (min xs.length ys.length)).all (pairQ xs ys) && xs.length == ys.length) = peqs xs ys
  | [], [] => rfl
  | [], _ :: _ => by simp [peqs]
  | _ :: _, [] => by simp [peqs]
  | x :: xs, y :: ys => by
    have e : min (x :: xs).length (y :: ys).length = min xs.length ys.length + 1 := by simp
    rw [e, List.range_succ_eq_map, List.all_cons, List.all_map]
    have := peqs_range xs ys
    show (peq x y && (List.range (min xs.length ys.length)).all (pairQ (x :: xs) (y :: ys) ∘ Nat.succ) && (x :: xs).length == (y :: ys).length) = (peq x y && peqs xs ys)
    rw [← this, Bool.and_assoc]
    congr 1
    have e2 : ((x :: xs).length == (y :: ys).length) = (xs.length == ys.length) := by simp
    rw [e2]
    rfl
theorem min_room {u a b : Nat} (h : u + min a b < cLine) : u < cLine := by omega
mutual
theorem eqD : ∀ (d e : D) (A : Around) (s : Shared) (a b : Value), RD s.heap d a → RD s.heap e b → A.units + min (dep d) (dep e) < cLine → EqAt A s a b (peq d e)
  | .non, e, A, s, a, b, p, q, hu => by
    unfold RD at p; subst p
    cases e with
    | non => unfold RD at q; subst q; exact EqAt.same _
    | bl y => unfold RD at q; subst q; exact EqAt.none_bool y
    | int y => unfold RD at q; obtain ⟨u, rfl⟩ := q; exact EqAt.none_int y u
    | str y => unfold RD at q; obtain ⟨u, rfl⟩ := q; exact EqAt.none_str y u
    | tup ys => unfold RD at q; obtain ⟨l, its, rfl, k, _⟩ := q; exact EqAt.none_tuple k (min_room hu)
  | .bl x, e, A, s, a, b, p, q, hu => by
    unfold RD at p; subst p
    cases e with
    | non => unfold RD at q; subst q; exact EqAt.bool_none x
    | bl y => unfold RD at q; subst q; exact EqAt.bool_bool x y
    | int y => unfold RD at q; obtain ⟨u, rfl⟩ := q; exact EqAt.bool_int x y u
    | str y => unfold RD at q; obtain ⟨u, rfl⟩ := q; exact EqAt.bool_str x y u
    | tup ys => unfold RD at q; obtain ⟨l, its, rfl, k, _⟩ := q; exact EqAt.bool_tuple x k (min_room hu)
  | .int x, e, A, s, a, b, p, q, hu => by
    unfold RD at p; obtain ⟨t, rfl⟩ := p
    cases e with
    | non => unfold RD at q; subst q; exact EqAt.int_none x t
    | bl y => unfold RD at q; subst q; exact EqAt.int_bool x t y
    | int y => unfold RD at q; obtain ⟨u, rfl⟩ := q; exact EqAt.int_int x t y u
    | str y => unfold RD at q; obtain ⟨u, rfl⟩ := q; exact EqAt.int_str x t y u
    | tup ys => unfold RD at q; obtain ⟨l, its, rfl, k, _⟩ := q; exact EqAt.int_tuple x t k (min_room hu)
  | .str x, e, A, s, a, b, p, q, hu => by
    unfold RD at p; obtain ⟨t, rfl⟩ := p
    cases e with
    | non => unfold RD at q; subst q; exact EqAt.str_none x t
    | bl y => unfold RD at q; subst q; exact EqAt.str_bool x t y
    | int y => unfold RD at q; obtain ⟨u, rfl⟩ := q; exact EqAt.str_int x t y u
    | str y => unfold RD at q; obtain ⟨u, rfl⟩ := q; exact EqAt.str_str x t y u
    | tup ys => unfold RD at q; obtain ⟨l, its, rfl, k, _⟩ := q; exact EqAt.str_tuple x t k (min_room hu)
  | .tup xs, e, A, s, a, b, p, q, hu => by
    have p' := p
    unfold RD at p; obtain ⟨l, its, rfl, hl, hi⟩ := p
    cases e with
    | non => unfold RD at q; subst q; exact EqAt.tuple_none hl (min_room hu)
    | bl y => unfold RD at q; subst q; exact EqAt.tuple_bool y hl (min_room hu)
    | int y => unfold RD at q; obtain ⟨u, rfl⟩ := q; exact EqAt.tuple_int y u hl (min_room hu)
    | str y => unfold RD at q; obtain ⟨u, rfl⟩ := q; exact EqAt.tuple_str y u hl (min_room hu)
    | tup ys =>
      have q' := q
      unfold RD at q; obtain ⟨l', its', rfl, hl', hi'⟩ := q
      by_cases hll : l = l'
      · subst hll
        rw [RD.inj p' q', peq_self]
        exact EqAt.same _
      · have n1 := hi.len
        have n2 := hi'.len
        show EqAt A s (.ref l) (.ref l') (peqs xs ys)
        rw [← peqs_range xs ys, ← n1, ← n2]
        have hu' : A.in1.units + min (deps xs) (deps ys) < cLine := by
          have : A.units + min (deps xs + 1) (deps ys + 1) < cLine := hu
          show A.units + 1 + min (deps xs) (deps ys) < cLine
          omega
        refine EqAt.of_refs hll (RcAt.tuples hl hl' (min_room hu) fun j j1 j2 => ?_)
        have := eqDs xs ys A.in1 s its its' hi hi' hu' j (by simpa using j1) (by simpa using j2)
        simpa using this
theorem eqDs : ∀ (xs ys : List D) (A : Around) (s : Shared) (vs ws : List Value), RDs s.heap xs vs → RDs s.heap ys ws → A.units + min (deps xs) (deps ys) < cLine →
    ∀ j (h1 : j < vs.length) (h2 : j < ws.length), EqAt A s vs[j] ws[j] (pairQ xs ys j)
  | [], ys, A, s, vs, ws, p, q, hu, j, h1, h2 => by unfold RDs at p; subst p; simp at h1
  | x :: xs, [], A, s, vs, ws, p, q, hu, j, h1, h2 => by unfold RDs at q; subst q; simp at h2
  | x :: xs, y :: ys, A, s, vs, ws, p, q, hu, j, h1, h2 => by
    unfold RDs at p q
    obtain ⟨u, r, rfl, p1, p2⟩ := p
    obtain ⟨u', r', rfl, q1, q2⟩ := q
    have hu' : A.units + min (max (dep x) (deps xs)) (max (dep y) (deps ys)) < cLine := hu
    cases j with
    | zero => exact eqD x y A s _ _ p1 q1 (by omega)
    | succ j => exact eqDs xs ys A s _ _ p2 q2 (by omega) j (Nat.lt_of_succ_lt_succ h1) (Nat.lt_of_succ_lt_succ h2)
end
theorem rcD (d e : D) (A : Around) (s : Shared) (a b : Value) (p : RD s.heap d a) (q : RD s.heap e b) (hu : A.units + min (dep d) (dep e) < cLine) : RcAt A s a b (peq d e) := by
  cases d with
  | non =>
    unfold RD at p; subst p
    cases e with
    | non => unfold RD at q; subst q; exact RcAt.none_none
    | bl y => unfold RD at q; subst q; exact RcAt.none_bool y
    | int y => unfold RD at q; obtain ⟨u, rfl⟩ := q; exact RcAt.none_int y u
    | str y => unfold RD at q; obtain ⟨u, rfl⟩ := q; exact RcAt.none_str y u
    | tup ys => unfold RD at q; obtain ⟨l, its, rfl, k, _⟩ := q; exact RcAt.none_tuple k (min_room hu)
  | bl x =>
    unfold RD at p; subst p
    cases e with
    | non => unfold RD at q; subst q; exact RcAt.bool_none x
    | bl y => unfold RD at q; subst q; exact RcAt.bool_bool x y
    | int y => unfold RD at q; obtain ⟨u, rfl⟩ := q; exact RcAt.bool_int x y u
    | str y => unfold RD at q; obtain ⟨u, rfl⟩ := q; exact RcAt.bool_str x y u
    | tup ys => unfold RD at q; obtain ⟨l, its, rfl, k, _⟩ := q; exact RcAt.bool_tuple x k (min_room hu)
  | int x =>
    unfold RD at p; obtain ⟨t, rfl⟩ := p
    cases e with
    | non => unfold RD at q; subst q; exact RcAt.int_none x t
    | bl y => unfold RD at q; subst q; exact RcAt.int_bool x t y
    | int y => unfold RD at q; obtain ⟨u, rfl⟩ := q; exact RcAt.int_int x t y u
    | str y => unfold RD at q; obtain ⟨u, rfl⟩ := q; exact RcAt.int_str x t y u
    | tup ys => unfold RD at q; obtain ⟨l, its, rfl, k, _⟩ := q; exact RcAt.int_tuple x t k (min_room hu)
  | str x =>
    unfold RD at p; obtain ⟨t, rfl⟩ := p
    cases e with
    | non => unfold RD at q; subst q; exact RcAt.str_none x t
    | bl y => unfold RD at q; subst q; exact RcAt.str_bool x t y
    | int y => unfold RD at q; obtain ⟨u, rfl⟩ := q; exact RcAt.str_int x t y u
    | str y => unfold RD at q; obtain ⟨u, rfl⟩ := q; exact RcAt.str_str x t y u
    | tup ys => unfold RD at q; obtain ⟨l, its, rfl, k, _⟩ := q; exact RcAt.str_tuple x t k (min_room hu)
  | tup xs =>
    unfold RD at p; obtain ⟨l, its, rfl, hl, hi⟩ := p
    cases e with
    | non => unfold RD at q; subst q; exact RcAt.tuple_none hl (min_room hu)
    | bl y => unfold RD at q; subst q; exact RcAt.tuple_bool y hl (min_room hu)
    | int y => unfold RD at q; obtain ⟨u, rfl⟩ := q; exact RcAt.tuple_int y u hl (min_room hu)
    | str y => unfold RD at q; obtain ⟨u, rfl⟩ := q; exact RcAt.tuple_str y u hl (min_room hu)
    | tup ys =>
      unfold RD at q; obtain ⟨l', its', rfl, hl', hi'⟩ := q
      have n1 := hi.len
      have n2 := hi'.len
      show RcAt A s (.ref l) (.ref l') (peqs xs ys)
      rw [← peqs_range xs ys, ← n1, ← n2]
      have hu' : A.in1.units + min (deps xs) (deps ys) < cLine := by
        have : A.units + min (deps xs + 1) (deps ys + 1) < cLine := hu
        show A.units + 1 + min (deps xs) (deps ys) < cLine
        omega
      refine RcAt.tuples hl hl' (min_room hu) fun j j1 j2 => ?_
      have := eqDs xs ys A.in1 s its its' hi hi' hu' j (by simpa using j1) (by simpa using j2)
      simpa using this
/-- lists of data -/
theorem rcL (xs ys : List D) (A : Around) (s : Shared) (l l' : Addr) (its its' : List Value) (hl : s.heap.IsList l its.toArray) (hl' : s.heap.IsList l' its'.toArray) (hi : RDs s.heap xs its) (hi' : RDs s.heap ys its')
    (hu : A.units + (min (deps xs) (deps ys) + 1) < cLine) : RcAt A s (.ref l) (.ref l') (peqs xs ys) := by
  have n1 := hi.len
  have n2 := hi'.len
  have hu' : A.in1.units + min (deps xs) (deps ys) < cLine := by
    show A.units + 1 + min (deps xs) (deps ys) < cLine
    omega
  by_cases hsz : its.length = its'.length
  · rw [← peqs_range xs ys, ← n1, ← n2, hsz, Nat.min_self]
    simp only [BEq.rfl, Bool.and_true]
    have := RcAt.lists (A := A) (e := pairQ xs ys) hl hl' (by simpa using hsz) (by omega) (fun j j1 j2 => by
      have := eqDs xs ys A.in1 s its its' hi hi' hu' j (by simpa using j1) (by simpa using j2)
      simpa using this)
    rw [← hsz]
    simpa using this
  · have : peqs xs ys = false := by
      rw [← peqs_range xs ys]
      have : (xs.length == ys.length) = false := by
        rw [← n1, ← n2]
        simpa using hsz
      simp [this]
    rw [this]
    exact RcAt.lists_lengths hl hl' (by simpa using hsz) (by omega)
theorem rcnD (d e : D) (A : Around) (s : Shared) (a b : Value) (p : RD s.heap d a) (q : RD s.heap e b) (hu : A.units + min (dep d) (dep e) < cLine) : RcNeAt A s a b (!peq d e) := by
  cases d with
  | non =>
    unfold RD at p; subst p
    cases e with
    | non => unfold RD at q; subst q; exact RcNeAt.none_none
    | bl y => unfold RD at q; subst q; exact RcNeAt.none_bool y
    | int y => unfold RD at q; obtain ⟨u, rfl⟩ := q; exact RcNeAt.none_int y u
    | str y => unfold RD at q; obtain ⟨u, rfl⟩ := q; exact RcNeAt.none_str y u
    | tup ys => unfold RD at q; obtain ⟨l, its, rfl, k, _⟩ := q; exact RcNeAt.none_tuple k (min_room hu)
  | bl x =>
    unfold RD at p; subst p
    cases e with
    | non => unfold RD at q; subst q; exact RcNeAt.bool_none x
    | bl y => unfold RD at q; subst q; exact RcNeAt.bool_bool x y
    | int y => unfold RD at q; obtain ⟨u, rfl⟩ := q; exact RcNeAt.bool_int x y u
    | str y => unfold RD at q; obtain ⟨u, rfl⟩ := q; exact RcNeAt.bool_str x y u
    | tup ys => unfold RD at q; obtain ⟨l, its, rfl, k, _⟩ := q; exact RcNeAt.bool_tuple x k (min_room hu)
  | int x =>
    unfold RD at p; obtain ⟨t, rfl⟩ := p
    cases e with
    | non => unfold RD at q; subst q; exact RcNeAt.int_none x t
    | bl y => unfold RD at q; subst q; exact RcNeAt.int_bool x t y
    | int y => unfold RD at q; obtain ⟨u, rfl⟩ := q; exact RcNeAt.int_int x t y u
    | str y => unfold RD at q; obtain ⟨u, rfl⟩ := q; exact RcNeAt.int_str x t y u
    | tup ys => unfold RD at q; obtain ⟨l, its, rfl, k, _⟩ := q; exact RcNeAt.int_tuple x t k (min_room hu)
  | str x =>
    unfold RD at p; obtain ⟨t, rfl⟩ := p
    cases e with
    | non => unfold RD at q; subst q; exact RcNeAt.str_none x t
    | bl y => unfold RD at q; subst q; exact RcNeAt.str_bool x t y
    | int y => unfold RD at q; obtain ⟨u, rfl⟩ := q; exact RcNeAt.str_int x t y u
    | str y => unfold RD at q; obtain ⟨u, rfl⟩ := q; exact RcNeAt.str_str x t y u
    | tup ys => unfold RD at q; obtain ⟨l, its, rfl, k, _⟩ := q; exact RcNeAt.str_tuple x t k (min_room hu)
  | tup xs =>
    unfold RD at p; obtain ⟨l, its, rfl, hl, hi⟩ := p
    cases e with
    | non => unfold RD at q; subst q; exact RcNeAt.tuple_none hl (min_room hu)
    | bl y => unfold RD at q; subst q; exact RcNeAt.tuple_bool y hl (min_room hu)
    | int y => unfold RD at q; obtain ⟨u, rfl⟩ := q; exact RcNeAt.tuple_int y u hl (min_room hu)
    | str y => unfold RD at q; obtain ⟨u, rfl⟩ := q; exact RcNeAt.tuple_str y u hl (min_room hu)
    | tup ys =>
      unfold RD at q; obtain ⟨l', its', rfl, hl', hi'⟩ := q
      have n1 := hi.len
      have n2 := hi'.len
      show RcNeAt A s (.ref l) (.ref l') (!peqs xs ys)
      rw [← peqs_range xs ys, ← n1, ← n2]
      have hu' : A.in1.units + min (deps xs) (deps ys) < cLine := by
        have : A.units + min (deps xs + 1) (deps ys + 1) < cLine := hu
        show A.units + 1 + min (deps xs) (deps ys) < cLine
        omega
      refine RcNeAt.tuples hl hl' (min_room hu) fun j j1 j2 => ?_
      have := eqDs xs ys A.in1 s its its' hi hi' hu' j (by simpa using j1) (by simpa using j2)
      simpa using this
/-- lists of data -/
theorem rcnL (xs ys : List D) (A : Around) (s : Shared) (l l' : Addr) (its its' : List Value) (hl : s.heap.IsList l its.toArray) (hl' : s.heap.IsList l' its'.toArray) (hi : RDs s.heap xs its) (hi' : RDs s.heap ys its')
    (hu : A.units + (min (deps xs) (deps ys) + 1) < cLine) : RcNeAt A s (.ref l) (.ref l') (!peqs xs ys) := by
  have n1 := hi.len
  have n2 := hi'.len
  have hu' : A.in1.units + min (deps xs) (deps ys) < cLine := by
    show A.units + 1 + min (deps xs) (deps ys) < cLine
    omega
  by_cases hsz : its.length = its'.length
  · rw [← peqs_range xs ys, ← n1, ← n2, hsz, Nat.min_self]
    simp only [BEq.rfl, Bool.and_true]
    have := RcNeAt.lists (A := A) (e := pairQ xs ys) hl hl' (by simpa using hsz) (by omega) (fun j j1 j2 => by
      have := eqDs xs ys A.in1 s its its' hi hi' hu' j (by simpa using j1) (by simpa using j2)
      simpa using this)
    rw [← hsz]
    simpa using this
  · have : peqs xs ys = false := by
      rw [← peqs_range xs ys]
      have : (xs.length == ys.length) = false := by
        rw [← n1, ← n2]
        simpa using hsz
      simp [this]
    rw [this]
    exact RcNeAt.lists_lengths hl hl' (by simpa using hsz) (by omega)
end EV
namespace EV
open PySem PySem.Spec L2
open PyProof.Rows hiding St
section
variable {X : Cx} {ca : Nat → Addr} {pins : List (Addr × Obj)} {σ : L2.St} {H : Hp} {s : Shared} {ps qs : Prs}
mutual
theorem RepD.real (I : Inv X pins σ H s) : ∀ {d : D} {v : V} {u : Value}, RepD X.K H d v → RelV v u → RD s.heap d u
  | .non, v, u, h, r => by unfold RepD at h; subst h; unfold RD; exact r
  | .bl b, v, u, h, r => by unfold RepD at h; subst h; unfold RD; exact r
  | .int i, v, u, h, r => by unfold RepD at h; subst h; unfold RD; exact r
  | .str i, v, u, h, r => by unfold RepD at h; subst h; unfold RD; exact r
  | .tup ds, v, u, h, r => by
    unfold RepD at h
    obtain ⟨a, xs, rfl, hs, hd⟩ := h
    cases r
    obtain ⟨its, rv, p, _⟩ := I.tuple hs
    unfold RD
    exact ⟨a, its, rfl, p, RepDs.real I hd rv⟩
theorem RepDs.real (I : Inv X pins σ H s) : ∀ {ds : List D} {xs : List V} {us : List Value}, RepDs X.K H ds xs → Vals xs us → RDs s.heap ds us
  | [], xs, us, h, r => by unfold RepDs at h; subst h; cases r; unfold RDs; rfl
  | d :: ds, xs, us, h, r => by
    unfold RepDs at h
    obtain ⟨x, rr, rfl, h1, h2⟩ := h
    cases r with
    | cons r1 r2 =>
      unfold RDs
      exact ⟨_, _, rfl, RepD.real I h1 r1, RepDs.real I h2 r2⟩
end
theorem Sp.datsL {o : Bool} {ds : List D} {v : V} (h : Sp X.K ca H ps ((.lst o (ds.map T.im), v) :: qs)) : ∃ a xs, v = .ref a ∧ LsA X.K H a xs ∧ RepDs X.K H ds xs := by
  obtain ⟨fp, sh, fq, sq, h1, h2, h3, ⟨f1, f2, s1, s2, r1, r2, rfl, rfl⟩, h5⟩ := h
  unfold Rep at r1
  obtain ⟨a, xs, f, s, rfl, r, h⟩ := r1
  obtain ⟨rfl, rfl⟩ := Reps.im_nil r
  refine ⟨a, xs, rfl, ?_, repDs_im.mpr r⟩
  rcases h with ⟨ha, _⟩ | ⟨_, ha, _⟩
  · exact .inl ha
  · exact .inr ha
theorem Sp.datsT {ds : List D} {v : V} (h : Sp X.K ca H ps ((.im (.tup ds), v) :: qs)) : ∃ a xs, v = .ref a ∧ SqT X.K H a xs ∧ RepDs X.K H ds xs := by
  have := h.dat
  unfold RepD at this
  exact this
theorem inv_list (I : Inv X pins σ H s) {a : Addr} {xs : List V} (h : LsA X.K H a xs) : ∃ its : List Value, Vals xs its ∧ s.heap.IsList a its.toArray ∧ xs.length ≤ sizeLine := by
  obtain ⟨its, r, p, z⟩ := I.list h.sq
  exact ⟨its, r, p.isList, z⟩
/-! ### as Python's data -/
theorem dpys_length : ∀ ds : List D, (dpys ds).length = ds.length
  | [] => rfl
  | d :: ds => by simp [dpys, dpys_length ds]
mutual
theorem RD.reads {h : Heap} : ∀ {d : D} {u : Value}, RD h d u → Reads h u (dpy d) []
  | .non, u, p => by unfold RD at p; subst p; unfold dpy; exact .none
  | .bl b, u, p => by unfold RD at p; subst p; unfold dpy; exact .bool b
  | .int i, u, p => by unfold RD at p; obtain ⟨t, rfl⟩ := p; unfold dpy; exact .int i t
  | .str i, u, p => by unfold RD at p; obtain ⟨t, rfl⟩ := p; unfold dpy; exact .str i t
  | .tup ds, u, p => by
    unfold RD at p
    obtain ⟨a, its, rfl, ⟨o, e, c, n, dd⟩, r⟩ := p
    unfold dpy
    exact .tuple e c dd (by simpa using RDs.reads r)
theorem RDs.reads {h : Heap} : ∀ {ds : List D} {us : List Value}, RDs h ds us → ReadsAll h us (dpys ds) []
  | [], us, p => by unfold RDs at p; subst p; unfold dpys; exact .nil
  | d :: ds, us, p => by
    unfold RDs at p
    obtain ⟨u, r, rfl, p1, p2⟩ := p
    unfold dpys
    exact .cons (as := []) (bs := []) (RD.reads p1) (RDs.reads p2)
end
theorem tpys_cons {t : T} {ts : List T} {ds : List PyData} (h : tpys (t :: ts) = some ds) : ∃ d r, ds = d :: r ∧ tpy t = some d ∧ tpys ts = some r := by
  unfold tpys at h
  split at h
  · rename_i d r h1 h2
    cases h
    exact ⟨d, r, rfl, h1, h2⟩
  · cases h
theorem tpys_length : ∀ {ts : List T} {ds : List PyData}, tpys ts = some ds → ds.length = ts.length
  | [], ds, h => by unfold tpys at h; cases h; rfl
  | t :: ts, ds, h => by
    obtain ⟨d, r, rfl, h1, h2⟩ := tpys_cons h
    simp [tpys_length h2]
/-- a dict's keys and values -/
theorem pairs_keys {P : Program} {w : World} {h : Heap} : ∀ {es : List DictEntry} {vs : List (Key × Value)}, Pairs (mixKind P w) es vs → ReadsAll h (es.map (·.key)) (dpys (vs.map fun p => kD p.1)) [] ∧ es.map (·.val) = vs.map (·.2)
  | _, _, .nil => ⟨by unfold List.map dpys; exact .nil, rfl⟩
  | _, _, .cons (e := e) (kv := kv) h1 h2 h3 => by
    obtain ⟨q1, q2⟩ := pairs_keys (h := h) h3
    refine ⟨?_, by rw [List.map_cons, List.map_cons, q2, h2]⟩
    rw [List.map_cons, List.map_cons]
    unfold dpys
    refine .cons (as := []) (bs := []) ?_ q1
    rcases keyIs_shape (show keyIs kv.1 e.key = true from h1) with ⟨i, t, e1, e2⟩ | ⟨i, t, e1, e2⟩
    · rw [e1, e2]
      unfold kD dpy
      exact .int i t
    · rw [e1, e2]
      unfold kD dpy
      exact .str i t
theorem kv_split : ∀ {kk : List Key} {xs : List V} {vs : List (Key × Value)}, kk.length = xs.length → KV (kk.zip xs) vs → (vs.map fun p => kD p.1) = kk.map kD ∧ Vals xs (vs.map (·.2))
  | [], xs, vs, hl, r => by
    cases xs with
    | nil => cases r; exact ⟨rfl, .nil⟩
    | cons x xs => simp at hl
  | k :: kk, xs, vs, hl, r => by
    cases xs with
    | nil => simp at hl
    | cons x xs =>
      rw [List.zip_cons_cons] at r
      cases r with
      | cons r1 r2 =>
        obtain ⟨q1, q2⟩ := kv_split (by simpa using hl) r2
        exact ⟨by rw [List.map_cons, List.map_cons, q1, ← r1.1], .cons r1.2 q2⟩
theorem zip_fst' : ∀ {a b : List PyData}, a.length = b.length → (a.zip b).map (·.1) = a
  | [], [], _ => rfl
  | [], _ :: _, h => by simp at h
  | _ :: _, [], h => by simp at h
  | x :: a, y :: b, h => by simp [zip_fst' (a := a) (b := b) (by simpa using h)]
theorem zip_snd' : ∀ {a b : List PyData}, a.length = b.length → (a.zip b).map (·.2) = b
  | [], [], _ => rfl
  | [], _ :: _, h => by simp at h
  | _ :: _, [], h => by simp at h
  | x :: a, y :: b, h => by simp [zip_snd' (a := a) (b := b) (by simpa using h)]
/-- which lists, which dicts -/
def AsOk (d : PyData) (as : List Addr) : Prop := (leafy d = true → as = []) ∧ ∀ kvs, d = .dict kvs → leafys (kvs.map (·.1)) = true → leafys (kvs.map (·.2)) = true → sysModules ∉ as
mutual
theorem Rep.reads (I : Inv X pins σ H s) : ∀ {t : T} {v : V} {fp sh : List Addr} {d : PyData} {u : Value}, Rep X.K ca H t v fp sh → tpy t = some d → RelV v u → ∃ as, Reads s.heap u d as ∧ AsOk d as
  | .im d, v, fp, sh, dd, u, h, e, r => by
    unfold tpy at e
    cases e
    unfold Rep at h
    refine ⟨[], RD.reads (RepD.real I h.2.2 r), fun _ => rfl, fun kvs e => ?_⟩
    cases d <;> (unfold dpy at e; cases e)
  | .tup ts, v, fp, sh, dd, u, h, e, r => by
    unfold tpy at e
    obtain ⟨ds, e1, rfl⟩ := Option.map_eq_some_iff.mp e
    unfold Rep at h
    obtain ⟨a, xs, rfl, hs, hr⟩ := h
    cases r
    obtain ⟨its, rv, ⟨o, q1, q2, n, q3⟩, _⟩ := I.tuple hs
    obtain ⟨as, k1, k2⟩ := Reps.reads I hr e1 rv
    exact ⟨as, .tuple q1 q2 q3 (by simpa using k1), fun hl => k2 (by simpa [leafy] using hl), fun kvs e => by cases e⟩
  | .lst o ts, v, fp, sh, dd, u, h, e, r => by
    unfold tpy at e
    obtain ⟨ds, e1, rfl⟩ := Option.map_eq_some_iff.mp e
    unfold Rep at h
    obtain ⟨a, xs, fp', sh', rfl, hr, h⟩ := h
    have ha : LsA X.K H a xs := by
      rcases h with ⟨ha, _⟩ | ⟨_, ha, _⟩
      · exact .inl ha
      · exact .inr ha
    cases r
    obtain ⟨its, rv, ⟨o, q1, q2, n, q3⟩, _⟩ := inv_list I ha
    obtain ⟨as, k1, k2⟩ := Reps.reads I hr e1 rv
    exact ⟨a :: as, .list q1 q2 q3 (by simpa using k1), fun hl => by simp [leafy] at hl, fun kvs e => by cases e⟩
  | .dct o k ks ts, v, fp, sh, dd, u, h, e, r => by
    cases k with
    | true => unfold tpy at e; cases e
    | false =>
      unfold tpy at e
      obtain ⟨ds, e1, rfl⟩ := Option.map_eq_some_iff.mp e
      unfold Rep at h
      obtain ⟨a, xs, fp', sh', rfl, ⟨kk, rfl, hl, ha, _⟩, hr, _, _⟩ := h
      cases r
      obtain ⟨_, hsys, vs, rv, o, es, ep, q1, q2, q3, _, q4, _⟩ := dk_rd I.hok (.inl ha)
      obtain ⟨p1, p2⟩ := pairs_keys (h := s.heap) q4
      obtain ⟨p3, p4⟩ := kv_split hl rv
      obtain ⟨as, k1, k2⟩ := Reps.reads I hr e1 p4
      have hlen : (dpys (kk.map kD)).length = ds.length := by
        rw [dpys_length, tpys_length e1, (reps_zip.mp hr).1, List.length_map, hl]
      rw [p3] at p1
      refine ⟨a :: [] ++ as, .dict q1 q2.1 q3 (by rw [zip_fst' hlen]; exact p1) (by rw [zip_snd' hlen, p2]; exact k1), fun hl => by simp [leafy] at hl, fun kvs e l1 l2 => ?_⟩
      cases e
      rw [zip_snd' hlen] at l2
      rw [k2 l2]
      intro z
      have : sysModules = a := by simpa using z
      rw [← this] at hsys
      simp at hsys
  | .ins _ _ _, v, fp, sh, dd, u, h, e, r => by unfold tpy at e; cases e
  | .exc _ _, v, fp, sh, dd, u, h, e, r => by unfold tpy at e; cases e
  | .hole, v, fp, sh, dd, u, h, e, r => by unfold tpy at e; cases e
  | .cell, v, fp, sh, dd, u, h, e, r => by unfold tpy at e; cases e
theorem Reps.reads (I : Inv X pins σ H s) : ∀ {ts : List T} {xs : List V} {fp sh : List Addr} {ds : List PyData} {us : List Value}, Reps X.K ca H ts xs fp sh → tpys ts = some ds → Vals xs us → ∃ as, ReadsAll s.heap us ds as ∧ (leafys ds = true → as = [])
  | [], xs, fp, sh, ds, us, h, e, r => by
    unfold Reps at h
    obtain ⟨rfl, _, _⟩ := h
    unfold tpys at e
    cases e
    cases r
    exact ⟨[], .nil, fun _ => rfl⟩
  | t :: ts, xs, fp, sh, ds, us, h, e, r => by
    unfold Reps at h
    obtain ⟨x, xr, f1, f2, s1, s2, rfl, h1, h2, _, _⟩ := h
    obtain ⟨d, dr, rfl, e1, e2⟩ := tpys_cons e
    cases r with
    | cons r1 r2 =>
      obtain ⟨as, k1, k2, _⟩ := Rep.reads I h1 e1 r1
      obtain ⟨bs, k3, k4⟩ := Reps.reads I h2 e2 r2
      refine ⟨as ++ bs, .cons k1 k3, fun hl => ?_⟩
      simp only [leafys, Bool.and_eq_true] at hl
      rw [k2 hl.1, k4 hl.2]
      rfl
end
theorem Sp.reads (I : Inv X pins σ H s) {t : T} {v : V} {d : PyData} {u : Value} (sp : Sp X.K ca H ps ((t, v) :: qs)) (e : tpy t = some d) (r : RelV v u) : ∃ as, Reads s.heap u d as ∧ AsOk d as := by
  obtain ⟨fp, sh, fq, sq, h1, h2, h3, ⟨f1, f2, s1, s2, r1, r2, rfl, rfl⟩, h5⟩ := sp
  exact Rep.reads I r1 e r
theorem deq_some {t u : T} {r : Bool} (e : deq t u = some r) : ∃ x y, tpy t = some x ∧ tpy u = some y ∧ x.plain = true ∧ y.plain = true ∧ min x.depth y.depth ≤ 100 ∧ r = PyData.eqv x y := by
  unfold deq at e
  split at e
  · rename_i x y h1 h2
    split at e
    · rename_i hc
      simp only [Bool.and_eq_true, decide_eq_true_eq] at hc
      cases e
      exact ⟨x, y, h1, h2, hc.1.1, hc.1.2, hc.2, rfl⟩
    · cases e
  · cases e
theorem deq_rc (hu : X.A.units + 150 < cLine) (I : Inv X pins σ H s) {t u : T} {x y : V} {a b : Value} {r : Bool} (sp : Sp X.K ca H ps ((t, x) :: (u, y) :: qs)) (rx : RelV x a) (ry : RelV y b) (e : deq t u = some r) : SeqAt.RcAt X.A s a b r := by
  obtain ⟨d, f, h1, h2, h3, h4, h5, rfl⟩ := deq_some e
  obtain ⟨as, r1, _⟩ := sp.reads I h1 rx
  obtain ⟨bs, r2, _⟩ := (sp.dropq (qs := [(t, x)])).reads I h2 ry
  exact SeqAt.rcAt_plain r1 r2 h3 h4 (by omega)
theorem deq_rcn (hu : X.A.units + 150 < cLine) (I : Inv X pins σ H s) {t u : T} {x y : V} {a b : Value} {r : Bool} (sp : Sp X.K ca H ps ((t, x) :: (u, y) :: qs)) (rx : RelV x a) (ry : RelV y b) (e : deq t u = some r) : SeqAt.RcNeAt X.A s a b (!r) := by
  obtain ⟨d, f, h1, h2, h3, h4, h5, rfl⟩ := deq_some e
  obtain ⟨as, r1, _⟩ := sp.reads I h1 rx
  obtain ⟨bs, r2, _⟩ := (sp.dropq (qs := [(t, x)])).reads I h2 ry
  exact SeqAt.rcNe_plain r1 r2 h3 h4 (by omega)
/-! ### comparisons -/
theorem teq_rc (hu : X.A.units + 150 < cLine) (I : Inv X pins σ H s) {t u : T} {x y : V} {a b : Value} {r : Bool} (sp : Sp X.K ca H ps ((t, x) :: (u, y) :: qs)) (rx : RelV x a) (ry : RelV y b) (e : teq t u = some r) : SeqAt.RcAt X.A s a b r := by
  have sp2 : Sp X.K ca H ps ((u, y) :: qs) := sp.dropq (qs := [(t, x)])
  unfold teq at e
  split at e
  · rename_i d f
    split at e
    · cases e
      have h1 := RepD.real I sp.dat rx
      have h2 := RepD.real I sp2.dat ry
      exact rcD d f X.A s a b h1 h2 (by omega)
    · cases e
  · rename_i o1 ts o2 us
    split at e
    · rename_i xs ys e1 e2
      split at e
      · cases e
        have e1' := datas_some e1
        have e2' := datas_some e2
        subst e1' e2'
        obtain ⟨l, vs, rfl, hl, r1⟩ := sp.datsL
        obtain ⟨l', ws, rfl, hl', r2⟩ := sp2.datsL
        obtain ⟨its, rv, p, _⟩ := inv_list I hl
        obtain ⟨its', rv', p', _⟩ := inv_list I hl'
        cases rx
        cases ry
        exact rcL xs ys X.A s l l' its its' p p' (RepDs.real I r1 rv) (RepDs.real I r2 rv') (by omega)
      · cases e
    · split at e
      · exact deq_rc hu I sp rx ry e
      · rename_i hne
        cases e
        obtain ⟨l, vs, rfl, hl, n1, _⟩ := sp.itemsL
        obtain ⟨l', ws, rfl, hl', n2, _⟩ := sp2.itemsL
        obtain ⟨its, rv, p, _⟩ := inv_list I hl
        obtain ⟨its', rv', p', _⟩ := inv_list I hl'
        cases rx
        cases ry
        refine SeqAt.RcAt.lists_lengths p p' ?_ (by omega)
        have k1 := rv.length
        have k2 := rv'.length
        have : its.length ≠ its'.length := by omega
        simpa using this
  · rename_i o ts d
    cases e
    obtain ⟨l, vs, rfl, hl, n1, _⟩ := sp.itemsL
    obtain ⟨its, rv, p, _⟩ := inv_list I hl
    have h2 := RepD.real I sp2.dat ry
    cases rx
    cases d with
    | non => unfold RD at h2; subst h2; exact SeqAt.RcAt.list_none p (by omega)
    | bl y => unfold RD at h2; subst h2; exact SeqAt.RcAt.list_bool y p (by omega)
    | int y => unfold RD at h2; obtain ⟨u, rfl⟩ := h2; exact SeqAt.RcAt.list_int y u p (by omega)
    | str y => unfold RD at h2; obtain ⟨u, rfl⟩ := h2; exact SeqAt.RcAt.list_str y u p (by omega)
    | tup ys => unfold RD at h2; obtain ⟨l', its', rfl, k, _⟩ := h2; exact SeqAt.RcAt.list_tuple p k (by omega)
  · rename_i d o ts
    cases e
    obtain ⟨l, vs, rfl, hl, n1, _⟩ := sp2.itemsL
    obtain ⟨its, rv, p, _⟩ := inv_list I hl
    have h2 := RepD.real I sp.dat rx
    cases ry
    cases d with
    | non => unfold RD at h2; subst h2; exact SeqAt.RcAt.none_list p (by omega)
    | bl y => unfold RD at h2; subst h2; exact SeqAt.RcAt.bool_list y p (by omega)
    | int y => unfold RD at h2; obtain ⟨u, rfl⟩ := h2; exact SeqAt.RcAt.int_list y u p (by omega)
    | str y => unfold RD at h2; obtain ⟨u, rfl⟩ := h2; exact SeqAt.RcAt.str_list y u p (by omega)
    | tup ys => unfold RD at h2; obtain ⟨l', its', rfl, k, _⟩ := h2; exact SeqAt.RcAt.tuple_list k p (by omega)
  · exact deq_rc hu I sp rx ry e
theorem teq_rcn (hu : X.A.units + 150 < cLine) (I : Inv X pins σ H s) {t u : T} {x y : V} {a b : Value} {r : Bool} (sp : Sp X.K ca H ps ((t, x) :: (u, y) :: qs)) (rx : RelV x a) (ry : RelV y b) (e : teq t u = some r) : SeqAt.RcNeAt X.A s a b (!r) := by
  have sp2 : Sp X.K ca H ps ((u, y) :: qs) := sp.dropq (qs := [(t, x)])
  unfold teq at e
  split at e
  · rename_i d f
    split at e
    · cases e
      have h1 := RepD.real I sp.dat rx
      have h2 := RepD.real I sp2.dat ry
      exact rcnD d f X.A s a b h1 h2 (by omega)
    · cases e
  · rename_i o1 ts o2 us
    split at e
    · rename_i xs ys e1 e2
      split at e
      · cases e
        have e1' := datas_some e1
        have e2' := datas_some e2
        subst e1' e2'
        obtain ⟨l, vs, rfl, hl, r1⟩ := sp.datsL
        obtain ⟨l', ws, rfl, hl', r2⟩ := sp2.datsL
        obtain ⟨its, rv, p, _⟩ := inv_list I hl
        obtain ⟨its', rv', p', _⟩ := inv_list I hl'
        cases rx
        cases ry
        exact rcnL xs ys X.A s l l' its its' p p' (RepDs.real I r1 rv) (RepDs.real I r2 rv') (by omega)
      · cases e
    · split at e
      · exact deq_rcn hu I sp rx ry e
      · rename_i hne
        cases e
        obtain ⟨l, vs, rfl, hl, n1, _⟩ := sp.itemsL
        obtain ⟨l', ws, rfl, hl', n2, _⟩ := sp2.itemsL
        obtain ⟨its, rv, p, _⟩ := inv_list I hl
        obtain ⟨its', rv', p', _⟩ := inv_list I hl'
        cases rx
        cases ry
        refine SeqAt.RcNeAt.lists_lengths p p' ?_ (by omega)
        have k1 := rv.length
        have k2 := rv'.length
        have : its.length ≠ its'.length := by omega
        simpa using this
  · rename_i o ts d
    cases e
    obtain ⟨l, vs, rfl, hl, n1, _⟩ := sp.itemsL
    obtain ⟨its, rv, p, _⟩ := inv_list I hl
    have h2 := RepD.real I sp2.dat ry
    cases rx
    cases d with
    | non => unfold RD at h2; subst h2; exact SeqAt.RcNeAt.list_none p (by omega)
    | bl y => unfold RD at h2; subst h2; exact SeqAt.RcNeAt.list_bool y p (by omega)
    | int y => unfold RD at h2; obtain ⟨u, rfl⟩ := h2; exact SeqAt.RcNeAt.list_int y u p (by omega)
    | str y => unfold RD at h2; obtain ⟨u, rfl⟩ := h2; exact SeqAt.RcNeAt.list_str y u p (by omega)
    | tup ys => unfold RD at h2; obtain ⟨l', its', rfl, k, _⟩ := h2; exact SeqAt.RcNeAt.list_tuple p k (by omega)
  · rename_i d o ts
    cases e
    obtain ⟨l, vs, rfl, hl, n1, _⟩ := sp2.itemsL
    obtain ⟨its, rv, p, _⟩ := inv_list I hl
    have h2 := RepD.real I sp.dat rx
    cases ry
    cases d with
    | non => unfold RD at h2; subst h2; exact SeqAt.RcNeAt.none_list p (by omega)
    | bl y => unfold RD at h2; subst h2; exact SeqAt.RcNeAt.bool_list y p (by omega)
    | int y => unfold RD at h2; obtain ⟨u, rfl⟩ := h2; exact SeqAt.RcNeAt.int_list y u p (by omega)
    | str y => unfold RD at h2; obtain ⟨u, rfl⟩ := h2; exact SeqAt.RcNeAt.str_list y u p (by omega)
    | tup ys => unfold RD at h2; obtain ⟨l', its', rfl, k, _⟩ := h2; exact SeqAt.RcNeAt.tuple_list k p (by omega)
  · exact deq_rcn hu I sp rx ry e
end
end EV
set_option Elab.async false
set_option linter.all false
set_option maxRecDepth 100000
namespace EV
open PySem PySem.Spec L2
open PyProof.Rows hiding St

theorem line_SL : sizeLine = SL := by decide
section
variable {X : Cx} {K : PySem.W.Frag} {ca : Nat → Addr} {pins : List (Addr × Obj)} {σ : L2.St} {H : Hp} {s : Shared} {ps qs rs : Prs} {t u r : T} {x y : V}
def bop : Bo → Operator
  | .add => .Add
  | .sub => .Sub
  | .mul => .Mult
  | .fdiv => .FloorDiv
  | .mod => .Mod
  | .pow => .Pow
def cop : Co → CmpOp
  | .eq => .Eq
  | .ne => .NotEq
  | .lt => .Lt
  | .le => .LtE
  | .gt => .Gt
  | .ge => .GtE
  | .in_ => .In
  | .nin => .NotIn
/-- a value that is data: what is held behind -/
theorem Sp.giveI {i : Int} (h : Sp K ca H ps qs) : Sp K ca H ((.im (.int i), .int i) :: ps) [] := h.noq.addD (by unfold RepD; rfl)
theorem Sp.giveB {b : Bool} (h : Sp K ca H ps qs) : Sp K ca H ((.im (.bl b), .bl b) :: ps) [] := h.noq.addD (by unfold RepD; rfl)
theorem Sp.giveS {b : Str} (h : Sp K ca H ps qs) : Sp K ca H ((.im (.str b), .str b) :: ps) [] := h.noq.addD (by unfold RepD; rfl)
theorem Sp.giveN (h : Sp K ca H ps qs) : Sp K ca H ((.im .non, .non) :: ps) [] := h.noq.addD (by unfold RepD; rfl)
theorem Sp.snd {p : T × V} (h : Sp K ca H ps (p :: qs)) : Sp K ca H ps qs := h.dropq (qs := [p])
theorem Sp.swapq {p q : T × V} (h : Sp K ca H ps (p :: q :: qs)) : Sp K ca H ps (q :: p :: qs) := h.permq (.swap _ _ _)
theorem cleans_zip {ts : List T} {xs : List V} (c : T.cleans ts = true) : ∀ p ∈ ts.zip xs, T.clean p.1 = true := fun p hp => T.cleans_iff.mp c p.1 (List.of_mem_zip hp).1
/-- items that never change: held -/
theorem Sp.holdL {o : Bool} {ts : List T} {v : V} (h : Sp K ca H ps ((.lst o ts, v) :: qs)) (c : T.cleans ts = true) : ∃ a xs, v = .ref a ∧ LsA K H a xs ∧ ts.length = xs.length ∧ Sp K ca H (ts.zip xs ++ ps) qs := by
  obtain ⟨a, xs, e, ha, n, sp⟩ := h.itemsL
  exact ⟨a, xs, e, ha, n, sp.holds (cleans_zip c)⟩
theorem Sp.holdT {ts : List T} {v : V} (h : Sp K ca H ps ((t, v) :: qs)) (e : tupOf t = some ts) (c : T.cleans ts = true) : ∃ a xs, v = .ref a ∧ SqT K H a xs ∧ ts.length = xs.length ∧ Sp K ca H (ts.zip xs ++ ps) qs := by
  obtain ⟨a, xs, e, ha, n, sp⟩ := h.itemsT e
  exact ⟨a, xs, e, ha, n, sp.holds (cleans_zip c)⟩
theorem vlst {a : Addr} {xs : List V} (h : LsA K H a xs) : SqL K H a xs := h.sq
theorem zip_app {ts us : List T} {xs ys : List V} (h : ts.length = xs.length) : (ts ++ us).zip (xs ++ ys) = ts.zip xs ++ us.zip ys := List.zip_append h
theorem repDs_app : ∀ {ds es : List D} {xs ys : List V}, RepDs K H ds xs → RepDs K H es ys → RepDs K H (ds ++ es) (xs ++ ys)
  | [], es, xs, ys, h, h' => by unfold RepDs at h; subst h; exact h'
  | d :: ds, es, xs, ys, h, h' => by
    unfold RepDs at h
    obtain ⟨x, r, rfl, h1, h2⟩ := h
    show RepDs K H (d :: (ds ++ es)) (x :: (r ++ ys))
    unfold RepDs
    exact ⟨x, r ++ ys, rfl, h1, repDs_app h2 h'⟩
theorem Sp.newTD {ds : List D} {xs : List V} {p : Addr} (h : Sp K ca H ps qs) (r : RepDs K H ds xs) (hp : H p = none) : Sp K ca (upd H p (.tup xs)) ((.im (.tup ds), .ref p) :: ps) qs := by
  refine (h.mono (mono_upd (o := .tup xs) hp)).addD ?_
  unfold RepD
  exact ⟨p, xs, rfl, SqT.of upd_same, RepDs.keep (fun b o e _ => mono_upd hp b o e) r⟩
theorem Sp.oldTD {ds : List D} {xs : List V} {p : Addr} (h : Sp K ca H ps qs) (r : RepDs K H ds xs) (hp : SqT K H p xs) : Sp K ca H ((.im (.tup ds), .ref p) :: ps) qs := by
  refine h.addD ?_
  unfold RepD
  exact ⟨p, xs, rfl, hp, r⟩
theorem op_powW : OpR X (binaryOp .Pow) (rI (fun i j => 0 ≤ j ∧ (Builtin.Int.intBits i : Int) * j ≤ 2 ^ 27) fun i j => .int (i ^ j.toNat)) := opI fun i j _ _ _ _ _ hc q => pow_int hc.1 hc.2 q
theorem mulOk_c {i j : Int} (h : mulOk i j = true) : CMul i j := by
  unfold mulOk at h
  simp only [Bool.or_eq_true, Bool.and_eq_true, decide_eq_true_eq] at h
  exact h
theorem rep_zip {ts : List T} {xs : List V} (e : ts.length = xs.length) : ∀ n : Nat, (rep ts n).zip (List.replicate n xs).flatten = (List.replicate n (ts.zip xs)).flatten
  | 0 => rfl
  | n + 1 => by
    show ((List.replicate (n + 1) ts).flatten).zip (List.replicate (n + 1) xs).flatten = _
    rw [List.replicate_succ, List.replicate_succ, List.replicate_succ, List.flatten_cons, List.flatten_cons, List.flatten_cons, List.zip_append e]
    exact congrArg _ (rep_zip e n)
theorem Sp.many (h : Sp K ca H ps (rs ++ qs)) (c : ∀ p ∈ rs, T.clean p.1 = true) : ∀ n : Nat, Sp K ca H ((List.replicate n rs).flatten ++ ps) (rs ++ qs)
  | 0 => h
  | n + 1 => by
    have i := Sp.many h c n
    have j : Sp K ca H (rs ++ ((List.replicate n rs).flatten ++ ps)) qs := i.holds c
    rw [List.replicate_succ, List.flatten_cons, List.append_assoc]
    exact j.peekAll
def rCatF (K : PySem.W.Frag) : R2 := fun x y H Q => ∃ l b xs zs, x = .ref l ∧ y = .ref b ∧ LsA K H l xs ∧ LsA K H b zs ∧ xs.length + zs.length ≤ sizeLine ∧ ∀ p, H p = none → Q (.ref p) (upd H p (.lst (xs ++ zs)))
theorem op_catF : OpR X (binaryOp .Add) (rCatF X.K) := by
  intro pins s σ H x y v u Q I rx ry h
  obtain ⟨l, b, xs, zs, rfl, rfl, hH, hB, hz, q⟩ := h
  cases rx
  cases ry
  obtain ⟨z, its, n, r, e⟩ := hH.raw I
  obtain ⟨z2, its2, n2, r2, e2⟩ := hB.raw I
  have hl := r.length
  have hl2 := r2.length
  refine PySem.P.add_list e e2 ?_ (by rw [List.size_toArray, List.size_toArray]; omega)
  have ea : its.toArray ++ its2.toArray = (its ++ its2).toArray := by simp
  rw [ea]
  exact ⟨.ref _, _, I.lnew (t' := s.toks) (r.append r2) (by rw [List.length_append]; omega), rfl, q _ I.fresh⟩
theorem opB : ∀ o, OpR X (binaryOp (bop o)) (rP2 X.K ca (boF o)) := by
  intro o pins s σ H x y v w Q I rx ry ⟨t, u, ps, qs, r, sp, e, k⟩
  have sp2 := sp.snd
  unfold boF at e
  split at e
  · cases e
    obtain rfl := sp.int
    obtain rfl := sp2.int
    exact op_add pins s σ H _ _ v w Q I rx ry ⟨_, _, rfl, rfl, k _ _ sp.giveI⟩
  · split at e
    · rename_i hl
      cases e
      obtain rfl := sp.str
      obtain rfl := sp2.str
      exact op_add_str pins s σ H _ _ v w Q I rx ry ⟨_, _, rfl, rfl, hl, k _ _ sp.giveS⟩
    · cases e
  · split at e
    · rename_i hl
      cases e
      obtain ⟨a, xs, rfl, h1, r1⟩ := sp.datsT
      obtain ⟨b, ys, rfl, h2, r2⟩ := sp2.datsT
      have n1 := repDs_len r1
      have n2 := repDs_len r2
      refine op_catA pins s σ H _ _ v w Q I rx ry ⟨a, b, xs, ys, rfl, rfl, h1, h2, by rw [← n1, ← n2]; exact hl, fun z => k _ _ ?_, fun _ z => k _ _ ?_, fun _ _ p hp => k _ _ (sp.noq.newTD (repDs_app r1 r2) hp)⟩
      · subst z
        have := repDs_app r1 r2
        exact sp.noq.oldTD this h2
      · subst z
        have := repDs_app r1 r2
        rw [List.append_nil] at this
        exact sp.noq.oldTD this h1
    · cases e
  · split at e
    · rename_i hl
      cases e
      simp only [Bool.and_eq_true, decide_eq_true_eq] at hl
      obtain ⟨⟨c1, c2⟩, hl⟩ := hl
      obtain ⟨a, xs, rfl, h1, n1, s1⟩ := sp.holdL c1
      obtain ⟨b, ys, rfl, h2, n2, s2⟩ := s1.holdL c2
      refine op_catF pins s σ H _ _ v w Q I rx ry ⟨a, b, xs, ys, rfl, rfl, h1, h2, by rw [← n1, ← n2]; exact hl, fun p hp => k _ _ ?_⟩
      refine Sp.newL ?_ (by simp [n1, n2]) hp
      rw [zip_app n1, List.append_assoc]
      refine s2.noq.perm ?_
      rw [← List.append_assoc, ← List.append_assoc]
      exact List.perm_append_comm.append_right _
    · cases e
  · cases e
    obtain rfl := sp.int
    obtain rfl := sp2.int
    exact op_sub pins s σ H _ _ v w Q I rx ry ⟨_, _, rfl, rfl, k _ _ sp.giveI⟩
  · split at e
    · rename_i hm
      cases e
      obtain rfl := sp.int
      obtain rfl := sp2.int
      exact op_mul pins s σ H _ _ v w Q I rx ry ⟨_, _, rfl, rfl, mulOk_c hm, k _ _ sp.giveI⟩
    · cases e
  · split at e
    · rename_i hl
      cases e
      simp only [Bool.and_eq_true, decide_eq_true_eq] at hl
      obtain ⟨⟨⟨c1, c2⟩, c3⟩, c4⟩ := hl
      obtain ⟨a, xs, rfl, h1, n1, s1⟩ := sp.itemsO
      obtain rfl := sp2.int
      refine op_rep pins s σ H _ _ v w Q I rx ry ⟨a, _, xs, rfl, rfl, h1, c3, c4, by rw [← n1]; exact c2, fun p hp => k _ _ ?_⟩
      refine Sp.newL ?_ ?_ hp
      · rw [rep_zip n1]
        exact (s1.many (cleans_zip c1) _).noq
      · simp [rep, n1]
    · cases e
  · split at e
    · rename_i hm
      cases e
      obtain rfl := sp.int
      obtain rfl := sp2.int
      exact op_fdiv pins s σ H _ _ v w Q I rx ry ⟨_, _, rfl, rfl, hm, k _ _ sp.giveI⟩
    · cases e
  · split at e
    · rename_i hm
      cases e
      obtain rfl := sp.int
      obtain rfl := sp2.int
      exact op_mod pins s σ H _ _ v w Q I rx ry ⟨_, _, rfl, rfl, hm, k _ _ sp.giveI⟩
    · cases e
  · split at e
    · rename_i hm
      cases e
      obtain rfl := sp.int
      obtain rfl := sp2.int
      exact op_powW pins s σ H _ _ v w Q I rx ry ⟨_, _, rfl, rfl, hm, k _ _ sp.giveI⟩
    · cases e
  · cases e
end
end EV
set_option Elab.async false
set_option linter.all false
set_option maxRecDepth 100000
namespace EV
open PySem PySem.Spec L2
open PyProof.Rows hiding St
section
variable {X : Cx} {ca : Nat → Addr} {pins : List (Addr × Obj)} {σ : L2.St} {H : Hp} {s : Shared} {ps qs rs : Prs} {t u r : T} {x y : V}
/-- is the item at u equal to d? -/
noncomputable def eqAtV (h : Heap) (d : D) (u : Value) : Bool := @decide (∃ e, RD h e u ∧ peq e d = true) (Classical.propDecidable _)
theorem eqAtV_of {h : Heap} {d e : D} {u : Value} (r : RD h e u) : eqAtV h d u = peq e d := by
  unfold eqAtV
  cases q : peq e d with
  | true => exact @decide_eq_true _ (Classical.propDecidable _) ⟨e, r, q⟩
  | false =>
    refine @decide_eq_false _ (Classical.propDecidable _) ?_
    rintro ⟨f, rf, qf⟩
    rw [RD.inj r rf, qf] at q
    cases q
theorem any_eqAtV {h : Heap} {d : D} : ∀ {ds : List D} {us : List Value}, RDs h ds us → us.any (eqAtV h d) = ds.any fun e => peq e d
  | [], us, p => by unfold RDs at p; subst p; rfl
  | e :: ds, us, p => by
    unfold RDs at p
    obtain ⟨u, r, rfl, p1, p2⟩ := p
    rw [List.any_cons, List.any_cons, eqAtV_of p1, any_eqAtV p2]
theorem mem_eqAtV {d : D} {s : Shared} {A : Around} {v : Value} (rv : RD s.heap d v) (hu : A.units + 100 < cLine) (hd : dep d ≤ 100) : ∀ {ds : List D} {us : List Value}, RDs s.heap ds us → ∀ u ∈ us, SeqAt.EqAt A s u v (eqAtV s.heap d u)
  | [], us, p => fun u hu => by unfold RDs at p; subst p; cases hu
  | e :: ds, us, p => fun u hm => by
    unfold RDs at p
    obtain ⟨u', r, rfl, p1, p2⟩ := p
    rcases List.mem_cons.mp hm with rfl | hm
    · rw [eqAtV_of p1]
      exact eqD e d A s u v p1 rv (by omega)
    · exact mem_eqAtV rv hu hd p2 u hm
/-! dicts -/
theorem kD_inj {a b : Key} (h : kD a = kD b) : a = b := by
  cases a <;> cases b <;> simp [kD] at h <;> rw [h]
theorem kD_leaf {d : D} (h : isLeaf d = true) : ∃ k, d = kD k := by
  cases d <;> simp [isLeaf] at h
  · exact ⟨.inl _, rfl⟩
  · exact ⟨.inr _, rfl⟩
theorem kD_of {k : Key} : isLeaf (kD k) = true := by cases k <;> rfl
theorem repD_kD {K : PySem.W.Frag} {k : Key} {v : V} (h : RepD K H (kD k) v) : v = kV k := by
  cases k <;> (unfold kD RepD at h; exact h)
theorem ktD_inj {a b : List Key} (h : ktD a = ktD b) : a = b := by
  unfold ktD at h
  injection h with h
  induction a generalizing b with
  | nil => cases b <;> simp at h ⊢
  | cons x a ih =>
    cases b with
    | nil => simp at h
    | cons y b =>
      simp at h
      rw [kD_inj h.1, ih h.2]
theorem kfind_val {κ : Type} [DecidableEq κ] {f : κ → D} (inj : ∀ a b, f a = f b → a = b) {k : κ} : ∀ {kk : List κ} {ts : List T} {xs : List V}, kk.length = xs.length → ts.length = xs.length →
    (kfind (kk.map f) ts (f k) = none ∧ valV (kk.zip xs) k = none) ∨ ∃ t v, kfind (kk.map f) ts (f k) = some t ∧ valV (kk.zip xs) k = some v ∧ (t, v) ∈ ts.zip xs
  | [], ts, xs, h1, h2 => .inl ⟨by simp [kfind], by simp [valV_nil]⟩
  | a :: kk, ts, xs, h1, h2 => by
    cases xs with
    | nil => simp at h1
    | cons x xs =>
      cases ts with
      | nil => simp at h2
      | cons t ts =>
        by_cases e : a = k
        · subst e
          exact .inr ⟨t, x, by simp [kfind], by rw [List.zip_cons_cons]; exact valV_pos rfl, by simp⟩
        · have e' : ¬ f a = f k := fun z => e (inj _ _ z)
          rcases kfind_val inj (k := k) (kk := kk) (ts := ts) (xs := xs) (by simpa using h1) (by simpa using h2) with ⟨q1, q2⟩ | ⟨t', v, q1, q2, q3⟩
          · exact .inl ⟨by simp [kfind, e', q1], by rw [List.zip_cons_cons, valV_neg e, q2]⟩
          · exact .inr ⟨t', v, by simp [kfind, e', q1], by rw [List.zip_cons_cons, valV_neg e, q2], by simp [q3]⟩
/-- a dict looked at -/
theorem Sp.itemsD {o k : Bool} {ks : List D} {ts : List T} {v : V} (h : Sp X.K ca H ps ((.dct o k ks ts, v) :: qs)) : ∃ a xs, v = .ref a ∧ DRep H a k ks xs ∧ ts.length = xs.length ∧ Sp X.K ca H ps (ts.zip xs ++ qs) := by
  obtain ⟨fp, sh, fq, sq, h1, h2, h3, ⟨f1, f2, s1, s2, r1, r2, rfl, rfl⟩, h5⟩ := h
  unfold Rep at r1
  obtain ⟨a, xs, f, s, rfl, ha, r, rfl, rfl⟩ := r1
  obtain ⟨e, r⟩ := reps_zip.mp r
  refine ⟨a, xs, rfl, ha, e, fp, sh, f ++ f2, s ++ s2, h1, h2, h3, RepP.append r r2, fun b z => h5 b ?_⟩
  rcases List.mem_append.mp z with z | z
  · exact List.mem_append_left _ (mem_own.mpr (.inr z))
  · exact List.mem_append_right _ z
/-- a key is looked for -/
theorem DRep.get {a : Addr} {ks : List D} {xs : List V} {ts : List T} {d : D} {y : V} (h : DRep H a false ks xs) (e : ts.length = xs.length) (ry : RepD X.K H d y) (l : isKey false d = true) :
    (kfind ks ts d = none ∧ DGet H a y none) ∨ ∃ t v, kfind ks ts d = some t ∧ DGet H a y (some v) ∧ (t, v) ∈ ts.zip xs := by
  obtain ⟨kk, rfl, n, hH, _⟩ := h
  obtain ⟨k, rfl⟩ := kD_leaf l
  have := repD_kD ry
  subst this
  have g : DGet H a (kV k) (valV (kk.zip xs) k) := .inl ⟨_, k, .inl hH, rfl, rfl⟩
  rcases kfind_val (f := kD) (fun _ _ => kD_inj) (k := k) n e with ⟨q1, q2⟩ | ⟨t, v, q1, q2, q3⟩
  · exact .inl ⟨q1, q2 ▸ g⟩
  · exact .inr ⟨t, v, q1, q2 ▸ g, q3⟩
def coT (o : Co) (a b : T) : Option T := (coF o a b).map fun b => .im (.bl b)
theorem finB {b : Bool} {Q : VK} {u : Value} (I : L2.Inv X pins σ H s) (k : ∀ v H', Sp X.K ca H' ((.im (.bl b), v) :: ps) [] → Q v H') (sp : Sp X.K ca H ps qs) (e : u = .bool b) : EP X pins σ Q u s :=
  ⟨.bl b, H, I, e, k _ _ sp.giveB⟩
theorem inF_ok (hu : X.A.units + 150 < cLine) (neg : Bool) {Q : VK} {a w : Value} (I : L2.Inv X pins σ H s) (rx : RelV x a) (ry : RelV y w) (sp : Sp X.K ca H ps ((t, x) :: (u, y) :: qs)) {b : Bool} (e : inF t u = some b)
    (k : ∀ v H', Sp X.K ca H' ((.im (.bl (neg ^^ b)), v) :: ps) [] → Q v H') : wpAny (model X.prog X.w) X.A (compareOp (if neg then .NotIn else .In) a w) (EP X pins σ Q) X.xe s := by
  have sp2 := sp.snd
  unfold inF at e
  split at e
  · cases e
    obtain rfl := sp.str
    obtain rfl := sp2.str
    cases neg
    · exact op_in_str pins s σ H _ _ a w Q I rx ry ⟨_, _, rfl, rfl, k _ _ (by simpa [strIn] using sp.giveB)⟩
    · exact op_notIn_str pins s σ H _ _ a w Q I rx ry ⟨_, _, rfl, rfl, k _ _ (by simpa [strIn] using sp.giveB)⟩
  · split at e
    · rename_i hd
      cases e
      have h1 := RepD.real I sp.dat rx
      obtain ⟨l, xs, rfl, hs, hr⟩ := sp2.datsT
      cases ry
      obtain ⟨its, rv, p, _⟩ := I.tuple hs
      have h2 := RepDs.real I hr rv
      have hu1 : X.A.in1.units + 100 < cLine := by
        show X.A.units + 1 + 100 < cLine
        omega
      have m := mem_eqAtV h1 hu1 hd h2
      have an : ∀ d, its.toArray.any (eqAtV s.heap d) = _ := fun d => (by simp : its.toArray.any (eqAtV s.heap d) = its.any (eqAtV s.heap d)).trans (any_eqAtV h2)
      cases neg
      · exact SeqAt.in_tupleAt (eqAtV s.heap _) p (fun w hw => m w (by simpa using hw)) (finB I k sp (by rw [an]; simp))
      · exact SeqAt.notIn_tupleAt (eqAtV s.heap _) p (fun w hw => m w (by simpa using hw)) (finB I k sp (by rw [an]; simp))
    · cases e
  · split at e
    · rename_i hd
      obtain ⟨ds, e1, e2⟩ := Option.map_eq_some_iff.mp e
      subst e2
      have e1' := datas_some e1
      subst e1'
      have h1 := RepD.real I sp.dat rx
      obtain ⟨l, xs, rfl, hs, hr⟩ := sp2.datsL
      cases ry
      obtain ⟨its, rv, p, _⟩ := inv_list I hs
      have h2 := RepDs.real I hr rv
      have hu1 : X.A.in1.units + 100 < cLine := by
        show X.A.units + 1 + 100 < cLine
        omega
      have m := mem_eqAtV h1 hu1 hd h2
      have an : ∀ d, its.toArray.any (eqAtV s.heap d) = _ := fun d => (by simp : its.toArray.any (eqAtV s.heap d) = its.any (eqAtV s.heap d)).trans (any_eqAtV h2)
      cases neg
      · exact SeqAt.in_listAt (eqAtV s.heap _) p (fun w hw => m w (by simpa using hw)) (finB I k sp (by rw [an]; simp))
      · exact SeqAt.notIn_listAt (eqAtV s.heap _) p (fun w hw => m w (by simpa using hw)) (finB I k sp (by rw [an]; simp))
    · cases e
  · split at e
    · rename_i o q ks ts hk
      cases e
      cases q with
      | true => exact False.elim (by simp [isKey] at hk)
      | false =>
        have rd := sp.dat
        obtain ⟨l, xs, rfl, hd, n, _⟩ := sp2.itemsD
        cases ry
        have go : ∀ o', DGet H l x o' → o'.isSome = (kfind ks ts _).isSome → wpAny (model X.prog X.w) X.A (compareOp (if neg then .NotIn else .In) a (.ref l)) (EP X pins σ Q) X.xe s := fun o' g eo => by
          cases neg
          · refine d_in (A := X.A) (by omega) I g rx fun s' I' => ⟨.bl o'.isSome, H, I', rfl, k _ _ ?_⟩
            rw [eo]
            simpa using sp.giveB
          · refine d_notIn (A := X.A) (by omega) I g rx fun s' I' => ⟨.bl (!o'.isSome), H, I', rfl, k _ _ ?_⟩
            rw [eo]
            simpa using sp.giveB
        rcases hd.get n rd hk with ⟨q1, q2⟩ | ⟨t, v, q1, q2, _⟩
        · exact go _ q2 (by rw [q1]; rfl)
        · exact go _ q2 (by rw [q1]; rfl)
    · cases e
  · cases e
theorem opC (hu : X.A.units + 150 < cLine) : ∀ o, OpR X (compareOp (cop o)) (rP2 X.K ca (coT o)) := by
  intro o pins s σ H x y v w Q I rx ry ⟨t, u, ps, qs, r, sp, e, k⟩
  have sp2 := sp.snd
  unfold coT at e
  obtain ⟨b, e1, hb⟩ := Option.map_eq_some_iff.mp e
  clear e
  have e := e1
  clear e1
  obtain rfl : r = .im (.bl b) := hb.symm
  unfold coF at e
  split at e
  · have := teq_rc hu I sp rx ry e
    exact this X.prog X.w _ _ (finB I k sp rfl)
  · obtain ⟨b', e', rfl⟩ := Option.map_eq_some_iff.mp e
    have := teq_rcn hu I sp rx ry e'
    exact this X.prog X.w _ _ (finB I k sp rfl)
  · cases e
    obtain rfl := sp.int
    obtain rfl := sp2.int
    exact op_lt pins s σ H _ _ v w Q I rx ry ⟨_, _, rfl, rfl, k _ _ sp.giveB⟩
  · cases e
    obtain rfl := sp.int
    obtain rfl := sp2.int
    exact op_le pins s σ H _ _ v w Q I rx ry ⟨_, _, rfl, rfl, k _ _ sp.giveB⟩
  · cases e
    obtain rfl := sp.int
    obtain rfl := sp2.int
    exact op_gt pins s σ H _ _ v w Q I rx ry ⟨_, _, rfl, rfl, k _ _ sp.giveB⟩
  · cases e
    obtain rfl := sp.int
    obtain rfl := sp2.int
    exact op_ge pins s σ H _ _ v w Q I rx ry ⟨_, _, rfl, rfl, k _ _ sp.giveB⟩
  · exact inF_ok hu false I rx ry sp e (by simpa using k)
  · obtain ⟨b', e', rfl⟩ := Option.map_eq_some_iff.mp e
    exact inF_ok hu true I rx ry sp e' (by simpa using k)
  · cases e
end
end EV
set_option Elab.async false
set_option linter.all false
set_option maxRecDepth 100000
set_option maxHeartbeats 1000000
namespace EV
open PySem PySem.Spec L2
open PyProof.Rows hiding St
open HT
section
variable {prog : Program} {w : World} {A : Around} {E : Value → Shared → Prop} {s : Shared}
/-! ### t[::-1] -/
theorem revAdj (n : Nat) : Builtin.Slice.sliceAdjust none none (-1) (n : Int) = ((n : Int) - 1, -1) := by
  unfold Builtin.Slice.sliceAdjust
  simp
theorem revPlaces (n : Nat) : Builtin.Slice.slicePlaces ((n : Int) - 1) (-1) (-1) = n := by
  unfold Builtin.Slice.slicePlaces
  have h1 : ¬ ((-1 : Int) > 0) := by decide
  simp only [h1, if_false]
  by_cases h : (n : Int) - 1 > -1
  · simp only [h, if_true, show (- -1 : Int) = 1 by decide, Int.ediv_one]
    omega
  · have : n = 0 := by omega
    subst this
    decide
theorem fm_congr {α β : Type} {f g : α → Option β} : ∀ {l : List α}, (∀ a ∈ l, f a = g a) → l.filterMap f = l.filterMap g
  | [], _ => rfl
  | a :: l, h => by rw [List.filterMap_cons, List.filterMap_cons, h a (by simp), fm_congr fun b hb => h b (by simp [hb])]
theorem revPick (xs : Array Value) : ((List.range xs.size).filterMap fun (k : Nat) => xs[((xs.size : Int) - 1 + (k : Int) * (-1)).toNat]?).toArray = xs.toList.reverse.toArray := by
  have e : (List.range xs.size).filterMap (fun (k : Nat) => xs[((xs.size : Int) - 1 + (k : Int) * (-1)).toNat]?) = ((List.range xs.size).map fun k => xs.size - 1 - k).filterMap (xs[·]?) := by
    rw [List.filterMap_map]
    refine fm_congr fun k hk => ?_
    have := List.mem_range.mp hk
    have e : ((xs.size : Int) - 1 + (k : Int) * (-1)).toNat = xs.size - 1 - k := by omega
    rw [e]
    rfl
  rw [e, PySem.W.krv_range, List.filterMap_reverse, PySem.W.krv_all]
theorem sliceApplied_rev {sl : Addr} {vl vu vs : Value} {n : Nat} {Q : Int × Int × Nat → Shared → Prop} (hs : s.heap.IsSliceOf sl vl vu vs) (pl : IsPart vl none) (pu : IsPart vu none) (ps : IsPart vs (some (-1)))
    (h : Q ((n : Int) - 1, -1, n) s) : wpAny (model prog w) A (Builtin.Slice.sliceApplied (.ref sl) (pure (n : Int))) Q E s := by
  obtain ⟨os, hos, hcs, hds⟩ := id hs
  unfold Builtin.Slice.sliceApplied Builtin.Slice.sliceFields
  refine wpAny_bind (wpAny_bind (wpAny_field hos hds (x := vl) rfl (wpAny_bind (wpAny_field hos hds (x := vu) rfl (wpAny_bind (wpAny_field hos hds (x := vs) rfl (wpAny_pure ?_)))))))
  refine wpAny_bind (slicePart_ ps ?_)
  show wpAny _ _ (if ((-1 : Int) == 0) = true then _ else _) _ _ s
  rw [if_neg (by decide)]
  refine wpAny_bind (slicePart_ pl (wpAny_bind (slicePart_ pu (wpAny_bind (wpAny_pure ?_)))))
  show wpAny _ _ (match Builtin.Slice.sliceAdjust none none (-1) (n : Int) with | (lo, hi) => pure (lo, (-1 : Int), Builtin.Slice.slicePlaces lo hi (-1))) _ _ s
  rw [revAdj n]
  show wpAny _ _ (pure ((n : Int) - 1, (-1 : Int), Builtin.Slice.slicePlaces ((n : Int) - 1) (-1) (-1))) _ _ s
  rw [revPlaces]
  exact wpAny_pure h
theorem getItem_tuple_rev {t sl : Addr} {items : Array Value} {vl vu vs : Value} {Q : Value → Shared → Prop} (ht : IsTup s.heap t items) (hs : s.heap.IsSliceOf sl vl vu vs) (pl : IsPart vl none) (pu : IsPart vu none) (ps : IsPart vs (some (-1)))
    (h : Q (.ref s.heap.objs.size) { s with heap := s.heap.push { cls := .type "tuple", data := .seq items.toList.reverse.toArray } })
    (hsz : items.size ≤ sizeLine) : wpAny (model prog w) A (getItem (.ref t) (.ref sl)) Q E s := by
  have htake : sizeOk (.seq items.toList.reverse.toArray) := by
    show items.toList.reverse.toArray.size ≤ sizeLine
    rw [List.size_toArray, List.length_reverse, Array.length_toList]
    exact hsz
  obtain ⟨os, hos, hcs, hds⟩ := id hs
  have hTs : s.TypeIs (.ref sl) "slice" := ⟨os, hos, hcs⟩
  unfold getItem
  try with_reducible refine wpAny_holding ?_
  first | refine wpAny_bind (wpAny_pure ?_) | skip
  refine wpAny_bind (wpAny_sequenceKey ht.typeIs (by decide) ?_)
  refine wpAny_bind (wpAny_callSpecial?_slot (name := Str.ofString "__getitem__") ht.typeIs PyProof.Rows.slot_tuple_getitem
    (wpAny_call_entry PyProof.Rows.slot_tuple_getitem ht.typeIs entry_tuple_getitem ?_ (args_tuple_getitem _ _)))
  show wpAny _ _ (Builtin.Tuple.tupleItemsOf (.ref t) >>= _) _ _ s
  refine wpAny_bind (tupleItemsOf_ ht ?_)
  refine wpAny_bind (wpAny_typeOf hTs ?_)
  rw [if_pos (by decide)]
  refine wpAny_bind (sliceApplied_rev hs pl pu ps ?_)
  have hno : ¬ (((((items.size : Nat) : Int) - 1) == 0 && (-1 : Int) == 1 && items.size == items.size) = true) := by
    intro q
    rw [Bool.and_eq_true, Bool.and_eq_true] at q
    exact absurd q.1.2 (by decide)
  show wpAny _ _ (if ((((items.size : Nat) : Int) - 1) == 0 && (-1 : Int) == 1 && items.size == items.size) = true then _ else _) _ _ s
  rw [if_neg hno, revPick]
  first
    | exact wpAny_bind (m := Builtin.Tuple.tupleExact _) (wpAny_newObj_type (wpAny_pure ⟨_, rfl, wpAny_pure h⟩) htake)
    | exact wpAny_bind (m := Builtin.Tuple.tupleExact _) (wpAny_newObj_type (wpAny_bind (wpAny_pure (wpAny_pure ⟨_, rfl, wpAny_pure h⟩))) htake)
    | exact wpAny_bind (wpAny_bind (m := Builtin.Tuple.tupleExact _) (wpAny_newObj_type (wpAny_pure (wpAny_pure ⟨_, rfl, wpAny_pure h⟩)) htake))
    | exact wpAny_bind (wpAny_bind (m := Builtin.Tuple.tupleExact _) (wpAny_newObj_type (wpAny_pure ⟨_, rfl, wpAny_pure h⟩) htake))
end
section
variable {X : Cx}
def tRevA (K : PySem.W.Frag) (te : TE) : TE := fun σ H Q => te σ H fun x H1 => ∃ a xs, x = .ref a ∧ ((SqL K H1 a xs ∧ ∀ p, H1 p = none → Q (.ref p) (upd H1 p (.lst xs.reverse))) ∨ (SqT K H1 a xs ∧ ∀ p, H1 p = none → Q (.ref p) (upd H1 p (.tup xs.reverse))))
theorem pe_revA {e : Expr} {te : TE} {k : Nat} {p1 p2 p3 pos : Pos} (he : PE X e te) : PE X (.Subscript e (.Slice none none (some (.UnaryOp .USub (.Constant (.int 1) k p1) p2)) p3) pos) (tRevA X.K te) := by
  refine ⟨fun pins s σ H Q I h => ?_⟩
  refine Subscript_ (thn (he.run pins s σ H _ I h) fun v s1 ⟨x, H1, I1, r1, q1⟩ => ?_)
  obtain ⟨a, xs, ex, hx⟩ := q1
  subst ex
  cases r1
  have hst : PO X (some (.UnaryOp .USub (.Constant (.int 1) k p1) p2)) (tPart (tUn (rU fun i => .int (-i)) (tC (.int 1)))) := po_some (pe_un un_neg pe_int)
  refine wpAny_Slice (thn (po_none.run pins s1 σ H1 (fun o H2 => o = none ∧ H2 = H1) I1 ⟨rfl, rfl⟩) fun vl s2 ⟨l, H2, I2, pl, el, e2⟩ => ?_)
  subst el e2
  refine thn (po_none.run pins s2 σ H2 (fun o H3 => o = none ∧ H3 = H2) I2 ⟨rfl, rfl⟩) fun vu s3 ⟨u, H3, I3, pu, eu, e3⟩ => ?_
  subst eu e3
  refine thn (hst.run pins s3 σ H3 (fun o H4 => o = some (-1) ∧ H4 = H3) I3 ⟨1, rfl, -1, rfl, rfl, rfl⟩) fun vs s4 ⟨o, H4, I4, ps, eo, e4⟩ => ?_
  subst eo e4
  have I5 : L2.Inv X pins σ H4 { s4 with heap := s4.heap.push { cls := .type "slice", data := .fields #[vl, vu, vs] } } := I4.kept (t' := s4.toks) fun b ob q => Heap.get?_push_of_some _ q
  rcases hx with ⟨hx, q⟩ | ⟨hx, q⟩
  · obtain ⟨its, r, ht, hz⟩ := I5.list hx
    have hlen := r.length
    show wpAny (model X.prog X.w) X.A (subscriptTail e (.Slice none none (some (.UnaryOp .USub (.Constant (.int 1) k p1) p2)) p3) (.ref a) (.ref s4.heap.objs.size)) (EP X pins σ Q) X.xe { s4 with heap := s4.heap.push { cls := .type "slice", data := .fields #[vl, vu, vs] } }
    refine tail_any (ops := [.ref a, .ref s4.heap.objs.size]) ht.isList.typeIs (PySem.slot_list_getitem.lookup) ?_ (by with_unfolding_all rfl)
    refine wpAny_getItem_list_slice ht.isList (Heap.IsSliceOf.new _ vl vu vs) pl pu ps (by decide) ?_ (by rw [List.size_toArray]; omega)
    rw [PySem.W.krv_pick]
    refine ⟨.ref _, _, I5.laid (t' := s4.toks) (o := .lst xs.reverse) (fun b ob q => Heap.get?_push_of_some _ q) (Nat.le_refl _) ?_, rfl, q _ (I5.hok.fresh (Nat.le_refl _))⟩
    exact ⟨by rw [List.length_reverse]; exact hz, _, 0, r.reverse, Heap.get?_push_size _ rfl⟩
  · obtain ⟨its, r, ht, hz⟩ := I5.tuple hx
    have hlen := r.length
    show wpAny (model X.prog X.w) X.A (subscriptTail e (.Slice none none (some (.UnaryOp .USub (.Constant (.int 1) k p1) p2)) p3) (.ref a) (.ref s4.heap.objs.size)) (EP X pins σ Q) X.xe { s4 with heap := s4.heap.push { cls := .type "slice", data := .fields #[vl, vu, vs] } }
    refine tail_any (ops := [.ref a, .ref s4.heap.objs.size]) ht.typeIs (PyProof.Rows.slot_tuple_getitem.lookup) ?_ (by with_unfolding_all rfl)
    refine getItem_tuple_rev ht (Heap.IsSliceOf.new _ vl vu vs) pl pu ps ?_ (by rw [List.size_toArray]; omega)
    refine ⟨.ref _, _, I5.laid (t' := s4.toks) (o := .tup xs.reverse) (fun b ob q => Heap.get?_push_of_some _ q) (Nat.le_refl _) ?_, rfl, q _ (I5.hok.fresh (Nat.le_refl _))⟩
    exact ⟨by rw [List.length_reverse]; exact hz, _, r.reverse, _, Heap.get?_push_size _ rfl, rfl, _, rfl⟩
end
end EV
set_option Elab.async false
set_option linter.all false
set_option maxRecDepth 100000
set_option maxHeartbeats 1000000
namespace EV
open PySem PySem.Spec L2
open PyProof.Rows hiding St
section
variable {X : Cx} {ca : Nat → Addr} {pins : List (Addr × Obj)} {σ : L2.St} {H : Hp} {s : Shared} {ps qs rs : Prs} {t u r : T} {x y : V} {K : PySem.W.Frag}
theorem RepP.mem {p : T × V} : ∀ {ps : Prs} {fp sh : List Addr}, RepP K ca H ps fp sh → p ∈ ps → ∃ f s, Rep K ca H p.1 p.2 f s ∧ (∀ a ∈ s, a ∈ sh) ∧ ∀ a ∈ f, a ∈ fp
  | [], _, _, _, h => by cases h
  | q :: ps, _, _, ⟨f1, f2, s1, s2, h1, h2, e1, e2⟩, h => by
    subst e1 e2
    rcases List.mem_cons.mp h with rfl | h
    · exact ⟨f1, s1, h1, fun a z => List.mem_append_left _ z, fun a z => List.mem_append_left _ z⟩
    · obtain ⟨f, s, r, q1, q2⟩ := RepP.mem h2 h
      exact ⟨f, s, r, fun a z => List.mem_append_right _ (q1 a z), fun a z => List.mem_append_right _ (q2 a z)⟩
/-- what is looked at is looked at once more -/
theorem Sp.pickq {p : T × V} (h : Sp K ca H ps qs) (hp : p ∈ qs) : Sp K ca H ps (p :: qs) := by
  obtain ⟨fp, sh, fq, sq, h1, h2, h3, h4, h5⟩ := h
  obtain ⟨f, s, r, q1, q2⟩ := RepP.mem h4 hp
  refine ⟨fp, sh, f ++ fq, s ++ sq, h1, h2, h3, ⟨f, fq, s, sq, r, h4, rfl, rfl⟩, fun a z => ?_⟩
  rcases List.mem_append.mp z with z | z
  · exact h5 a (q1 a z)
  · exact h5 a z
theorem Sp.only {p : T × V} (h : Sp K ca H ps qs) (hp : p ∈ qs) : Sp K ca H ps [p] := by
  have := h.pickq hp
  exact (this.permq (qs' := qs ++ [p]) (by simpa using List.perm_append_comm (l₁ := [p]) (l₂ := qs))).dropq
theorem Sp.holdAny (h : Sp K ca H ps qs) : ∀ {rs : Prs}, (∀ p ∈ rs, p ∈ qs ∧ T.clean p.1 = true) → Sp K ca H (rs ++ ps) qs
  | [], _ => h
  | p :: rs, c => by
    have i := Sp.holdAny h (rs := rs) fun q hq => c q (by simp [hq])
    obtain ⟨c1, c2⟩ := c p (by simp)
    exact (i.pickq c1).hold c2
theorem getI_at {α : Type} (xs : List α) (i : Int) : getI xs i = atI xs i := by
  unfold getI atI ixN
  by_cases h0 : 0 ≤ i
  · rw [if_pos h0, if_pos h0]
    by_cases h1 : i < xs.length
    · rw [if_pos h1]; rfl
    · rw [if_neg h1]
      exact List.getElem?_eq_none_iff.mpr (by omega)
  · rw [if_neg h0, if_neg h0]
    by_cases h1 : -(xs.length : Int) ≤ i
    · rw [if_pos h1, if_pos h1]; rfl
    · rw [if_neg h1, if_neg h1]; rfl
theorem getI_zip {ts : List T} {xs : List V} {i : Int} (e : ts.length = xs.length) (h : getI ts i = some r) : ∃ v, atI xs i = some v ∧ (r, v) ∈ ts.zip xs := by
  have key : ∀ j : Nat, ts[j]? = some r → ∃ v, xs[j]? = some v ∧ (r, v) ∈ ts.zip xs := fun j hj => by
    obtain ⟨hl, hg⟩ := List.getElem?_eq_some_iff.mp hj
    have hx : j < xs.length := by omega
    refine ⟨xs[j], List.getElem?_eq_getElem hx, ?_⟩
    have hz : j < (ts.zip xs).length := by simp; omega
    have : (ts.zip xs)[j] = (r, xs[j]) := by rw [List.getElem_zip, hg]
    rw [← this]
    exact List.getElem_mem hz
  unfold getI at h
  unfold atI ixN
  by_cases h0 : 0 ≤ i
  · rw [if_pos h0] at h ⊢
    have : i.toNat < ts.length := (List.getElem?_eq_some_iff.mp h).1
    rw [if_pos (by omega)]
    exact key _ h
  · rw [if_neg h0] at h ⊢
    by_cases h1 : -(ts.length : Int) ≤ i
    · rw [if_pos h1] at h
      rw [if_pos (by omega)]
      rw [e] at h
      exact key _ h
    · rw [if_neg h1] at h; cases h
/-- by values: what is looked at, what is looked at then -/
def rI2 (K : PySem.W.Frag) (ca : Nat → Addr) (f : T → T → Option T) : R2 := fun x y H Q => ∃ t u ps qs r, Sp K ca H ps ((t, x) :: (u, y) :: qs) ∧ f t u = some r ∧ ∀ v, Sp K ca H ps [(r, v)] → Q v H
theorem repDs_mem : ∀ {ds : List D} {xs : List V}, RepDs K H ds xs → ∀ p ∈ (ds.map T.im).zip xs, ∃ d, p.1 = .im d ∧ RepD K H d p.2
  | [], xs, h => fun p hp => by simp at hp
  | d :: ds, xs, h => fun p hp => by
    unfold RepDs at h
    obtain ⟨x, r, rfl, h1, h2⟩ := h
    rw [List.map_cons, List.zip_cons_cons] at hp
    rcases List.mem_cons.mp hp with rfl | hp
    · exact ⟨d, rfl, h1⟩
    · exact repDs_mem h2 p hp
theorem ixF (hu : X.A.units + 150 < cLine) : IxR X (rI2 X.K ca idxF) := by
  intro value slice pins s σ H x y v w Q I rx ry ⟨t, u, ps, qs, r, sp, e, k⟩ hs
  have sp2 := sp.snd
  unfold idxF at e
  split at e
  · obtain ⟨d, e1, rfl⟩ := Option.map_eq_some_iff.mp e
    obtain ⟨a, xs, rfl, ha, hd⟩ := sp.datsT
    obtain rfl := sp2.int
    rename_i ds i
    have e2 : getI (ds.map T.im) i = some (.im d) := by
      rw [getI_at] at e1 ⊢
      unfold atI at e1 ⊢
      rw [List.length_map]
      cases q : ixN ds.length i with
      | none => rw [q] at e1; cases e1
      | some j =>
        rw [q] at e1
        show (ds.map T.im)[j]? = _
        rw [List.getElem?_map, show ds[j]? = some d from e1]
        rfl
    obtain ⟨v0, a1, a2⟩ := getI_zip (by rw [List.length_map]; exact repDs_len hd) e2
    obtain ⟨d', e3, hr⟩ := repDs_mem hd _ a2
    cases e3
    refine ix_tup value slice pins s σ H _ _ v w Q I rx ry ⟨a, xs, i, v0, rfl, rfl, ha, a1, k _ ?_⟩ hs
    exact (sp.addDq hr).only (by simp)
  · obtain ⟨a, xs, rfl, ha, n, si⟩ := sp.itemsT (ts := _) rfl
    obtain rfl := sp2.int
    obtain ⟨v0, a1, a2⟩ := getI_zip n e
    exact ix_tup value slice pins s σ H _ _ v w Q I rx ry ⟨a, xs, _, v0, rfl, rfl, ha, a1, k _ (si.only (List.mem_append_left _ a2))⟩ hs
  · obtain ⟨a, xs, rfl, ha, n, si⟩ := sp.itemsL
    obtain rfl := sp2.int
    obtain ⟨v0, a1, a2⟩ := getI_zip n e
    exact ix_list value slice pins s σ H _ _ v w Q I rx ry ⟨a, xs, _, v0, rfl, rfl, vlst ha, a1, k _ (si.only (List.mem_append_left _ a2))⟩ hs
  · split at e
    · rename_i hz
      obtain ⟨c, e1, rfl⟩ := Option.map_eq_some_iff.mp e
      obtain rfl := sp.str
      obtain rfl := sp2.int
      rw [getI_at] at e1
      refine ix_str value slice pins s σ H _ _ v w Q I rx ry ⟨_, _, c, rfl, rfl, hz, e1, k _ ?_⟩ hs
      exact (sp.addDq (d := .str ⟨#[c]⟩) (v := .str ⟨#[c]⟩) (by unfold RepD; rfl)).only (by simp)
    · cases e
  · split at e
    · rename_i o q ks ts d hk
      cases q with
      | true => exact False.elim (by simp [isKey] at hk)
      | false =>
        obtain ⟨a, xs, rfl, ha, n, si⟩ := sp.itemsD
        rcases ha.get n sp2.dat hk with ⟨q1, q2⟩ | ⟨t', v0, q1, q2, q3⟩
        · rw [q1] at e; cases e
        · rw [q1] at e
          cases e
          cases rx
          exact tail_any (dict_typeIs I q2) PySem.F.slot_dict_getitem.lookup (d_getItem (by omega) I q2 ry fun w' s' I' rw' => ⟨v0, H, I', rw', k _ (si.only (List.mem_append_left _ q3))⟩) hs
    · cases e
  · cases e
/-! ### slices -/
theorem bnd_ix (n d : Nat) (i : Int) : HT.sIx n d (some i) = bnd n i := rfl
theorem cut_map {α β : Type} (f : α → β) (xs : List α) (lo hi : Option Int) : (cut xs lo hi).map f = cut (xs.map f) lo hi := by
  unfold cut
  simp [List.map_take, List.map_drop]
theorem cut_V (xs : List V) (lo hi : Option Int) : cutV xs lo hi = cut xs lo hi := by
  unfold cutV cut
  cases lo <;> cases hi <;> rfl
theorem cut_zip {α β : Type} {ts : List α} {xs : List β} (e : ts.length = xs.length) (lo hi : Option Int) : (cut ts lo hi).zip (cut xs lo hi) = cut (ts.zip xs) lo hi := by
  unfold cut
  have e2 : (ts.zip xs).length = xs.length := by simp [e]
  rw [e, e2]
  show List.zipWith Prod.mk _ _ = List.take _ (List.drop _ (List.zipWith Prod.mk _ _))
  rw [List.drop_zipWith, List.take_zipWith]
theorem cut_mem {α : Type} {xs : List α} {lo hi : Option Int} {a : α} (h : a ∈ cut xs lo hi) : a ∈ xs := List.mem_of_mem_drop (List.mem_of_mem_take h)
theorem cut_len {α β : Type} {ts : List α} {xs : List β} (e : ts.length = xs.length) (lo hi : Option Int) : (cut ts lo hi).length = (cut xs lo hi).length := by
  unfold cut
  simp [e]
theorem cut_whole {α : Type} {xs : List α} {lo hi : Option Int} (h : HT.sIx xs.length 0 lo = 0 ∧ HT.sIx xs.length xs.length hi = xs.length) : cut xs lo hi = xs := by
  have e : cut xs lo hi = (xs.drop (HT.sIx xs.length 0 lo)).take (HT.sIx xs.length xs.length hi - HT.sIx xs.length 0 lo) := by
    unfold cut
    cases lo <;> cases hi <;> rfl
  rw [e, h.1, h.2]
  simp
theorem repDs_take : ∀ {ds : List D} {xs : List V} (n : Nat), RepDs K H ds xs → RepDs K H (ds.take n) (xs.take n)
  | [], xs, n, h => by unfold RepDs at h; subst h; simp [RepDs]
  | d :: ds, xs, n, h => by
    unfold RepDs at h
    obtain ⟨x, r, rfl, h1, h2⟩ := h
    cases n with
    | zero => simp [RepDs]
    | succ n =>
      rw [List.take_succ_cons, List.take_succ_cons]
      unfold RepDs
      exact ⟨x, _, rfl, h1, repDs_take n h2⟩
theorem repDs_drop : ∀ {ds : List D} {xs : List V} (n : Nat), RepDs K H ds xs → RepDs K H (ds.drop n) (xs.drop n)
  | [], xs, n, h => by unfold RepDs at h; subst h; simp [RepDs]
  | d :: ds, xs, n, h => by
    cases n with
    | zero => exact h
    | succ n =>
      unfold RepDs at h
      obtain ⟨x, r, rfl, h1, h2⟩ := h
      rw [List.drop_succ_cons, List.drop_succ_cons]
      exact repDs_drop n h2
theorem repDs_cut {ds : List D} {xs : List V} (lo hi : Option Int) (h : RepDs K H ds xs) : RepDs K H (cut ds lo hi) (cut xs lo hi) := by
  unfold cut
  rw [repDs_len h]
  exact repDs_take _ (repDs_drop _ h)
def rS1 (K : PySem.W.Frag) (ca : Nat → Addr) : V → Option Int → Option Int → Hp → VK → Prop := fun x lo hi H Q => ∃ t ps qs r, Sp K ca H ps ((t, x) :: qs) ∧ slcF t lo hi = some r ∧ ∀ v H', Sp K ca H' ((r, v) :: ps) [] → Q v H'
theorem slF : SlR X (rS1 X.K ca) := by
  intro pins s σ H x v vl vu lo hi sl Q I rx hs pl pu ⟨t, ps, qs, r, sp, e, k⟩
  unfold slcF at e
  split at e
  · cases e
    obtain ⟨a, xs, rfl, ha, hd⟩ := sp.datsT
    refine sl_tupA pins s σ H _ v vl vu lo hi sl Q I rx hs pl pu ⟨a, xs, rfl, ha, fun hw => k _ _ ?_, fun _ p hp => k _ _ ?_⟩
    · have e1 := repDs_len hd
      rw [cut_whole (xs := _) (by rw [e1]; exact hw)]
      exact sp.noq.oldTD hd ha
    · rw [cut_V]
      exact sp.noq.newTD (repDs_cut lo hi hd) hp
  · split at e
    · rename_i c
      cases e
      obtain ⟨a, xs, rfl, ha, n, si⟩ := sp.itemsL
      refine sl_list pins s σ H _ v vl vu lo hi sl Q I rx hs pl pu ⟨a, xs, rfl, vlst ha, fun p hp => k _ _ ?_⟩
      rw [cut_V]
      refine Sp.newL ?_ (cut_len n lo hi) hp
      rw [cut_zip n]
      exact (si.holdAny fun q hq => ⟨List.mem_append_left _ (cut_mem hq), cleans_zip c q (cut_mem hq)⟩).noq
    · cases e
  · split at e
    · rename_i hz
      cases e
      obtain rfl := sp.str
      refine sl_str pins s σ H _ v vl vu lo hi sl Q I rx hs pl pu ⟨_, rfl, hz, k _ _ ?_⟩
      have : ∀ z : Str, cutS z lo hi = ⟨(cut z.cps.toList lo hi).toArray⟩ := fun z => by
        unfold cutS cut
        have : z.cps.toList.length = z.length := by
          show z.cps.toList.length = z.cps.size
          simp
        rw [this]
        cases lo <;> cases hi <;> rfl
      rw [this]
      exact sp.giveS
    · cases e
  · cases e
/-! ### [::-1] -/
theorem zip_rev {ts : List T} {xs : List V} (e : ts.length = xs.length) : ts.reverse.zip xs.reverse = (ts.zip xs).reverse := by
  induction ts generalizing xs with
  | nil => cases xs <;> simp at e ⊢
  | cons t ts ih =>
    cases xs with
    | nil => simp at e
    | cons x xs =>
      have e' : ts.length = xs.length := by simpa using e
      rw [List.zip_cons_cons, List.reverse_cons, List.reverse_cons, List.reverse_cons, List.zip_append (by simpa using e'), ih e']
      rfl
theorem repDs_rev : ∀ {ds : List D} {xs : List V}, RepDs K H ds xs → RepDs K H ds.reverse xs.reverse
  | [], xs, h => by unfold RepDs at h; subst h; simp [RepDs]
  | d :: ds, xs, h => by
    unfold RepDs at h
    obtain ⟨x, r, rfl, h1, h2⟩ := h
    rw [List.reverse_cons, List.reverse_cons]
    have : RepDs K H [d] [x] := by
      unfold RepDs
      exact ⟨x, [], rfl, h1, by unfold RepDs; rfl⟩
    have go : ∀ {a b : List D} {p q : List V}, RepDs K H a p → RepDs K H b q → RepDs K H (a ++ b) (p ++ q) := by
      intro a
      induction a with
      | nil => intro b p q h h'; unfold RepDs at h; subst h; exact h'
      | cons a as ih =>
        intro b p q h h'
        unfold RepDs at h
        obtain ⟨x, r, rfl, h1, h2⟩ := h
        show RepDs K H (a :: (as ++ b)) (x :: (r ++ q))
        unfold RepDs
        exact ⟨x, _, rfl, h1, ih h2 h'⟩
    exact go (repDs_rev h2) this
theorem revF_ok {H1 : Hp} {Q : VK} (sp : Sp K ca H1 ps ((t, x) :: qs)) (e : revF t = some r) (k : ∀ v H', Sp K ca H' ((r, v) :: ps) [] → Q v H') :
    ∃ a xs, x = .ref a ∧ ((SqL K H1 a xs ∧ ∀ p, H1 p = none → Q (.ref p) (upd H1 p (.lst xs.reverse))) ∨ (SqT K H1 a xs ∧ ∀ p, H1 p = none → Q (.ref p) (upd H1 p (.tup xs.reverse)))) := by
  unfold revF at e
  split at e
  · cases e
    obtain ⟨a, xs, rfl, ha, hd⟩ : ∃ a xs, x = .ref a ∧ SqT K H1 a xs ∧ RepDs K H1 _ xs := by
      have := sp.dat
      unfold RepD at this
      exact this
    refine ⟨a, xs, rfl, .inr ⟨ha, fun p hp => k _ _ ?_⟩⟩
    refine (sp.noq.mono (mono_upd (o := .tup xs.reverse) hp)).addD ?_
    unfold RepD
    exact ⟨p, _, rfl, SqT.of upd_same, RepDs.keep (fun b o e _ => mono_upd hp b o e) (repDs_rev hd)⟩
  · split at e
    · rename_i c
      cases e
      obtain ⟨a, xs, rfl, ha, n, si⟩ := sp.itemsL
      refine ⟨a, xs, rfl, .inl ⟨ha.sq, fun p hp => k _ _ ?_⟩⟩
      refine Sp.newL ?_ (by simp [n]) hp
      rw [zip_rev n]
      exact (si.holdAny fun q hq => ⟨List.mem_append_left _ (List.mem_reverse.mp hq), cleans_zip c q (List.mem_reverse.mp hq)⟩).noq
    · cases e
  · cases e
end
end EV
set_option Elab.async false
set_option linter.all false
set_option maxRecDepth 100000
set_option maxHeartbeats 1000000
namespace EV
open PySem PySem.Spec L2
open PyProof.Rows hiding St
section
variable {X : Cx} {ca : Nat → Addr} {pins : List (Addr × Obj)} {σ : L2.St} {H : Hp} {s : Shared} {ps qs rs : Prs} {t u r : T} {x y : V} {K : PySem.W.Frag}
/-! ### truth -/
theorem emp_len {α β : Type} {a : List α} {b : List β} (e : a.length = b.length) : a.isEmpty = b.isEmpty := by
  cases a <;> cases b <;> simp at e ⊢
theorem truV {b : Bool} (sp : Sp K ca H ps ((t, x) :: qs)) (e : truF t = some b) : TruV K x H b := by
  unfold truF at e
  split at e
  · cases e; obtain rfl := sp.non; rfl
  · cases e; obtain rfl := sp.bl; rfl
  · cases e; obtain rfl := sp.int; rfl
  · split at e
    · rename_i hz
      cases e
      obtain rfl := sp.str
      refine ⟨hz, ?_⟩
      rename_i s0
      cases s0.length <;> simp <;> omega
    · cases e
  · cases e
    have := sp.dat
    unfold RepD at this
    obtain ⟨a, xs, rfl, h1, h2⟩ := this
    exact .inr (.inl ⟨xs, h1, by rw [emp_len (repDs_len h2)]⟩)
  · cases e
    obtain ⟨a, xs, rfl, ha, n, _⟩ := sp.itemsL
    exact .inl ⟨xs, ha.sq, by rw [emp_len n]⟩
  · cases e
    obtain ⟨fp, sh, fq, sq, h1, h2, h3, ⟨f1, f2, s1, s2, r1, r2, rfl, rfl⟩, h5⟩ := sp
    unfold Rep at r1
    obtain ⟨a, xs, f, s, rfl, ⟨kk, e1, e2, e3, _⟩, r, rfl, rfl⟩ := r1
    refine .inr (.inr ⟨_, e3, ?_⟩)
    rw [e1]
    cases kk <;> cases xs <;> simp at e2 ⊢
  · cases e
/-! ### builtins -/
theorem ints_vals : ∀ {ts : List T} {ns : List Int} {xs : List V}, intsOf ts = some ns → ts.length = xs.length → Sp K ca H ps (ts.zip xs ++ qs) → xs = ns.map V.int
  | [], ns, xs, e, n, sp => by
    cases e
    cases xs <;> simp at n ⊢
  | t :: ts, ns, xs, e, n, sp => by
    cases xs with
    | nil => simp at n
    | cons x xs =>
      cases t with
      | im d =>
        cases d with
        | int i =>
          simp only [intsOf, Option.map_eq_some_iff] at e
          obtain ⟨ms, e1, rfl⟩ := e
          have sp' : Sp K ca H ps ((.im (.int i), x) :: (ts.zip xs ++ qs)) := sp
          have h1 := sp'.dat
          unfold RepD at h1
          subst h1
          rw [ints_vals e1 (by simpa using n) sp'.snd]
          rfl
        | _ => simp [intsOf] at e
      | _ => simp [intsOf] at e
theorem bools_vals : ∀ {ts : List T} {ns : List Bool} {xs : List V}, boolsOf ts = some ns → ts.length = xs.length → Sp K ca H ps (ts.zip xs ++ qs) → xs = ns.map V.bl
  | [], ns, xs, e, n, sp => by
    cases e
    cases xs <;> simp at n ⊢
  | t :: ts, ns, xs, e, n, sp => by
    cases xs with
    | nil => simp at n
    | cons x xs =>
      cases t with
      | im d =>
        cases d with
        | bl i =>
          simp only [boolsOf, Option.map_eq_some_iff] at e
          obtain ⟨ms, e1, rfl⟩ := e
          have sp' : Sp K ca H ps ((.im (.bl i), x) :: (ts.zip xs ++ qs)) := sp
          have h1 := sp'.dat
          unfold RepD at h1
          subst h1
          rw [bools_vals e1 (by simpa using n) sp'.snd]
          rfl
        | _ => simp [boolsOf] at e
      | _ => simp [boolsOf] at e
theorem maxI_ge : ∀ {l : List Int} {y : Int}, y ∈ l → y ≤ maxI l
  | [a], y, h => by simp at h; simp [maxI, h]
  | a :: b :: r, y, h => by
    simp only [maxI]
    rcases List.mem_cons.mp h with rfl | h
    · exact Int.le_max_left _ _
    · exact Int.le_trans (maxI_ge h) (Int.le_max_right _ _)
theorem maxI_mem : ∀ {l : List Int}, l ≠ [] → maxI l ∈ l
  | [a], _ => by simp [maxI]
  | a :: b :: r, _ => by
    simp only [maxI]
    have := maxI_mem (l := b :: r) (by simp)
    rcases Int.le_total a (maxI (b :: r)) with h | h
    · rw [Int.max_eq_right h]; exact List.mem_cons_of_mem _ this
    · rw [Int.max_eq_left h]; simp
theorem minI_le : ∀ {l : List Int} {y : Int}, y ∈ l → minI l ≤ y
  | [a], y, h => by simp at h; simp [minI, h]
  | a :: b :: r, y, h => by
    simp only [minI]
    rcases List.mem_cons.mp h with rfl | h
    · exact Int.min_le_left _ _
    · exact Int.le_trans (Int.min_le_right _ _) (minI_le h)
theorem minI_mem : ∀ {l : List Int}, l ≠ [] → minI l ∈ l
  | [a], _ => by simp [minI]
  | a :: b :: r, _ => by
    simp only [minI]
    have := minI_mem (l := b :: r) (by simp)
    rcases Int.le_total a (minI (b :: r)) with h | h
    · rw [Int.min_eq_left h]; simp
    · rw [Int.min_eq_right h]; exact List.mem_cons_of_mem _ this
theorem len1 {α : Type} {xs : List α} (n : 1 = xs.length) : ∃ a, xs = [a] := by
  match xs with
  | [a] => exact ⟨a, rfl⟩
  | [] => simp at n
  | _ :: _ :: _ => simp at n
theorem len2 {α : Type} {xs : List α} (n : 2 = xs.length) : ∃ a b, xs = [a, b] := by
  match xs with
  | [a, b] => exact ⟨a, b, rfl⟩
  | [] => simp at n
  | [_] => simp at n
  | _ :: _ :: _ :: _ => simp at n
/-- what is called for a builtin -/
def bnm : Bi → Value
  | .len => .builtin "len"
  | .int => .type "int"
  | .abs => .builtin "abs"
  | .min => .builtin "min"
  | .max => .builtin "max"
  | .sum => .builtin "sum"
  | .all => .builtin "all"
  | .any => .builtin "any"
  | .list => .type "list"
  | .tuple => .type "tuple"
  | _ => .none
theorem seqLT_sq {ts : List T} (sp : Sp K ca H ps ((t, x) :: qs)) (e : seqLT t = some ts) : ∃ p xs, x = .ref p ∧ (LsA K H p xs ∨ SqT K H p xs) ∧ ts.length = xs.length ∧ Sp K ca H ps (ts.zip xs ++ qs) := by
  unfold seqLT at e
  split at e
  · cases e
    obtain ⟨a, xs, h1, h2, h3, h4⟩ := sp.itemsT (ts := _) rfl
    exact ⟨a, xs, h1, .inr h2, h3, h4⟩
  · cases e
    obtain ⟨a, xs, h1, h2, h3, h4⟩ := sp.itemsT (ts := _) rfl
    exact ⟨a, xs, h1, .inr h2, h3, h4⟩
  · cases e
    obtain ⟨a, xs, h1, h2, h3, h4⟩ := sp.itemsL
    exact ⟨a, xs, h1, .inl h2, h3, h4⟩
  · cases e
theorem biC (hc : X.calm = true) : ∀ b, bnm b ≠ .none → CallR X (bnm b) (rPF X.K ca (biF b)) := by
  intro b hb pins s σ H xs us Q I rv ⟨ts, ps, qs, r, n, sp, e, k⟩
  unfold biF at e
  split at e
  · split at e
    · rename_i hz
      cases e
      obtain ⟨x, rfl⟩ := len1 n
      obtain rfl := sp.str
      exact call_len pins s σ H _ us Q I rv ⟨_, _, rfl, ⟨hz, rfl⟩, k _ _ sp.giveI⟩
    · cases e
  · cases e
    obtain ⟨x, rfl⟩ := len1 n
    obtain ⟨a, xs, rfl, ha, hd⟩ := sp.datsT
    refine call_len_seq pins s σ H _ us Q I rv ⟨a, xs, rfl, .inr ha, k _ _ ?_⟩
    rw [← repDs_len hd]
    exact sp.giveI
  · cases e
    obtain ⟨x, rfl⟩ := len1 n
    obtain ⟨a, xs, rfl, ha, hn, _⟩ := sp.itemsT (ts := _) rfl
    refine call_len_seq pins s σ H _ us Q I rv ⟨a, xs, rfl, .inr ha, k _ _ ?_⟩
    rw [← hn]
    exact sp.giveI
  · cases e
    obtain ⟨x, rfl⟩ := len1 n
    obtain ⟨a, xs, rfl, ha, hn, _⟩ := sp.itemsL
    refine call_len_seq pins s σ H _ us Q I rv ⟨a, xs, rfl, .inl (vlst ha), k _ _ ?_⟩
    rw [← hn]
    exact sp.giveI
  · cases e
    obtain ⟨x, rfl⟩ := len1 n
    obtain ⟨a, xs, rfl, ⟨kk, e1, e2, e3, _⟩, hn, _⟩ := sp.itemsD
    refine call_lenD pins s σ H _ us Q I rv ⟨a, _, rfl, e3, k _ _ ?_⟩
    rw [e1, List.length_zip, e2, Nat.min_self, List.length_map, e2]
    exact sp.giveI
  · cases e
    obtain ⟨x, rfl⟩ := len1 n
    obtain rfl := sp.int
    exact call_int1 pins s σ H _ us Q I rv (.inl ⟨_, rfl, k _ _ sp.giveI⟩)
  · cases e
    obtain ⟨x, rfl⟩ := len1 n
    obtain rfl := sp.bl
    exact call_int1 pins s σ H _ us Q I rv (.inr ⟨_, rfl, k _ _ sp.giveI⟩)
  · cases e
    obtain ⟨x, rfl⟩ := len1 n
    obtain rfl := sp.int
    exact call_abs pins s σ H _ us Q I rv ⟨_, rfl, k _ _ sp.giveI⟩
  · cases e
    obtain ⟨x, y, rfl⟩ := len2 n
    have sp' : Sp X.K ca H ps ((.im (.int _), x) :: (.im (.int _), y) :: qs) := sp
    obtain rfl := sp'.int
    obtain rfl := sp'.snd.int
    exact call_min2 hc pins s σ H _ us Q I rv ⟨_, _, rfl, k _ _ sp.giveI⟩
  · cases e
    obtain ⟨x, y, rfl⟩ := len2 n
    have sp' : Sp X.K ca H ps ((.im (.int _), x) :: (.im (.int _), y) :: qs) := sp
    obtain rfl := sp'.int
    obtain rfl := sp'.snd.int
    exact call_max2 hc pins s σ H _ us Q I rv ⟨_, _, rfl, k _ _ sp.giveI⟩
  · split at e
    · rename_i i0 r0 ei
      cases e
      obtain ⟨x, rfl⟩ := len1 n
      have sp' : Sp X.K ca H ps ((.lst _ _, x) :: qs) := sp
      obtain ⟨a, xs, rfl, ha, hn, si⟩ := sp'.itemsL
      have ev := ints_vals ei hn si
      subst ev
      refine cr_min hc pins s σ H _ us Q I rv ⟨a, i0 :: r0, rfl, vlst ha, by simp, fun m hm hy => k _ _ ?_⟩
      have : m = minI (i0 :: r0) := Int.le_antisymm (hy _ (minI_mem (by simp))) (minI_le hm)
      rw [← this]
      exact sp.giveI
    · cases e
  · split at e
    · rename_i i0 r0 ei
      cases e
      obtain ⟨x, rfl⟩ := len1 n
      have sp' : Sp X.K ca H ps ((.lst _ _, x) :: qs) := sp
      obtain ⟨a, xs, rfl, ha, hn, si⟩ := sp'.itemsL
      have ev := ints_vals ei hn si
      subst ev
      refine cr_max hc pins s σ H _ us Q I rv ⟨a, i0 :: r0, rfl, vlst ha, by simp, fun m hm hy => k _ _ ?_⟩
      have : m = maxI (i0 :: r0) := Int.le_antisymm (maxI_ge hm) (hy _ (maxI_mem (by simp)))
      rw [← this]
      exact sp.giveI
    · cases e
  · obtain ⟨is, ei, rfl⟩ := Option.map_eq_some_iff.mp e
    obtain ⟨x, rfl⟩ := len1 n
    have sp' : Sp X.K ca H ps ((.lst _ _, x) :: qs) := sp
    obtain ⟨a, xs, rfl, ha, hn, si⟩ := sp'.itemsL
    have ev := ints_vals ei hn si
    subst ev
    exact cr_sum hc pins s σ H _ us Q I rv ⟨a, is, rfl, vlst ha, k _ _ sp.giveI⟩
  · obtain ⟨is, ei, rfl⟩ := Option.map_eq_some_iff.mp e
    obtain ⟨x, rfl⟩ := len1 n
    have sp' : Sp X.K ca H ps ((.lst _ _, x) :: qs) := sp
    obtain ⟨a, xs, rfl, ha, hn, si⟩ := sp'.itemsL
    have ev := bools_vals ei hn si
    subst ev
    exact cr_all hc pins s σ H _ us Q I rv ⟨a, is, rfl, vlst ha, k _ _ sp.giveB⟩
  · obtain ⟨is, ei, rfl⟩ := Option.map_eq_some_iff.mp e
    obtain ⟨x, rfl⟩ := len1 n
    have sp' : Sp X.K ca H ps ((.lst _ _, x) :: qs) := sp
    obtain ⟨a, xs, rfl, ha, hn, si⟩ := sp'.itemsL
    have ev := bools_vals ei hn si
    subst ev
    exact cr_any hc pins s σ H _ us Q I rv ⟨a, is, rfl, vlst ha, k _ _ sp.giveB⟩
  · split at e
    · rename_i ts es
      split at e
      · rename_i c
        cases e
        obtain ⟨x, rfl⟩ := len1 n
        have sp' : Sp X.K ca H ps ((_, x) :: qs) := sp
        obtain ⟨p, xs, rfl, hs, hn, si⟩ := seqLT_sq sp' es
        exact call_list_of pins s σ H _ us Q I rv ⟨p, xs, rfl, hs.imp vlst id, fun l hl => k _ _ (Sp.newL (si.holds (cleans_zip c)).noq hn hl)⟩
      · cases e
    · cases e
  · split at e
    · rename_i ts es
      split at e
      · rename_i c
        cases e
        obtain ⟨x, rfl⟩ := len1 n
        have sp' : Sp X.K ca H ps ((_, x) :: qs) := sp
        obtain ⟨p, xs, rfl, hs, hn, si⟩ := seqLT_sq sp' es
        have sh := (si.holds (cleans_zip c)).noq
        rcases hs with hs | hs
        · exact call_tuple_of pins s σ H _ us Q I rv ⟨p, xs, rfl, .inl ⟨vlst hs, fun l hl => k _ _ (Sp.newT sh hn hl)⟩⟩
        · exact call_tuple_of pins s σ H _ us Q I rv ⟨p, xs, rfl, .inr ⟨hs, k _ _ (Sp.closeT sh hn hs)⟩⟩
      · cases e
    · cases e
  · cases e
end
end EV
set_option Elab.async false
set_option linter.all false
set_option maxRecDepth 100000
set_option maxHeartbeats 1000000
namespace PySem.AutoSeq1
open PySem
theorem ev_extend_tup (l : Addr) (items : Array Value) (n : Nat) (b : Addr) (items2 : Array Value) (n2 : Nat) (dd : Option Addr) (sl : Array (Option Value)) (hs0 : ¬(!items.isEmpty && Builtin.List.listTooLong (items.size + items2.size)) = true) (hs1 : items.size ≤ sizeLine) (hs2 : items.size + items2.size ≤ sizeLine + 1) :
    Meets (Builtin.«list.extend» ⟨[.ref l, .ref b], []⟩) (fun _ R s => s.heap.get? l = some { cls := .type "list", dict := none, data := .seq items n, slots := #[] } ∧ s.heap.get? b = some { cls := .type "tuple", dict := dd, data := .seq items2 n2, slots := sl } ∧ R (.ok (.ret Value.none)) { s with heap := s.heap.update l (Obj.mapSeq fun x => x ++ items2), toks := s.toks }) :=
  .of_wp fun prog w A R s h => by
    obtain ⟨hp, g, d, tk, os⟩ := s; obtain ⟨hl, hb, h⟩ := h; have f1 := idx_int; have f2 := sub_tuple_tuple; have f3 := sub_list_list; have f4 := sub_tuple_list; have f5 := sub_list_tuple;
    have hz' : (items ++ items2).size ≤ sizeLine + 1 := by rw [Array.size_append]; exact hs2
    wp_walk using (wpAny_updateSeq hl rfl (hz := hs1) (_hz' := hz')), wpAny_loadPart' hl, wpAny_loadPart' hb; exact ⟨_, rfl, h⟩
end PySem.AutoSeq1
namespace EV
open PySem PySem.Spec L2
open PyProof.Rows hiding St
section
variable {X : Cx} {ca : Nat → Addr} {pins : List (Addr × Obj)} {σ : L2.St} {H : Hp} {s : Shared} {ps qs rs : Prs} {t u r : T} {x y : V} {K : PySem.W.Frag}
def rExtT (K : PySem.W.Frag) : V → List V → Hp → VK → Prop := fun x vs H Q => ∃ l b xs zs, x = .ref l ∧ vs = [.ref b] ∧ H l = some (.lst xs) ∧ SqT K H b zs ∧ xs.length + zs.length ≤ sizeLine ∧ Q .non (upd H l (.lst (xs ++ zs)))
theorem mt_extendT : MtM X "list.extend" (rExtT X.K) := by
  intro pins s σ H x vs v us Q I rx rv h
  obtain ⟨l, b, xs, zs, rfl, rfl, hH, hB, hz, q⟩ := h
  cases rx
  obtain ⟨u, rfl, ru⟩ := rv.one
  cases ru
  obtain ⟨z, its, n, r, hl, e⟩ := I.lstM hH
  obtain ⟨its2, r2, p2, hz2⟩ := I.tuple hB
  obtain ⟨⟨cls, dd, data, sl⟩, ho, hc, n2, hd⟩ := id p2
  simp only at hc hd
  subst hc hd
  have hl2 := r2.length
  have hsz : its.toArray.size + its2.toArray.size ≤ sizeLine := by rw [List.size_toArray, List.size_toArray]; omega
  have hlong : ¬ (!its.toArray.isEmpty && Builtin.List.listTooLong (its.toArray.size + its2.toArray.size)) = true := by
    rw [notLongL hsz, Bool.and_false]
    exact Bool.false_ne_true
  refine call_meets PySem.F.slot_list_extend ⟨_, e, rfl⟩ PySem.F.entry_list_extend (PySem.F.args_list_extend_2 _ _)
    (AutoSeq1.ev_extend_tup l its.toArray n b its2.toArray n2 dd sl hlong (by rw [List.size_toArray]; omega) (by omega)) ⟨e, ho, ?_⟩
  refine ⟨.non, _, I.lset (its' := its ++ its2) hH e (by simp) (r.append r2) ?_, rfl, q⟩
  rw [List.length_append]
  omega
def rExtF (K : PySem.W.Frag) : V → List V → Hp → VK → Prop := fun x vs H Q => ∃ l b xs zs, x = .ref l ∧ vs = [.ref b] ∧ H l = some (.lst xs) ∧ LsA K H b zs ∧ xs.length + zs.length ≤ sizeLine ∧ Q .non (upd H l (.lst (xs ++ zs)))
theorem mt_extendF : MtM X "list.extend" (rExtF X.K) := by
  intro pins s σ H x vs v us Q I rx rv h
  obtain ⟨l, b, xs, zs, rfl, rfl, hH, hB, hz, q⟩ := h
  cases rx
  obtain ⟨u, rfl, ru⟩ := rv.one
  cases ru
  obtain ⟨_, its, n, r1, hl, e1⟩ := I.lstM hH
  obtain ⟨_, ks, m, r2, e2⟩ := hB.raw I
  have hl2 := r2.length
  have hs : its.toArray.size + ks.toArray.size ≤ sizeLine := by rw [List.size_toArray, List.size_toArray]; omega
  have hg : ¬ (!its.toArray.isEmpty && Builtin.List.listTooLong (its.toArray.size + ks.toArray.size)) = true := by
    rw [notLongL hs, Bool.and_false]
    exact Bool.false_ne_true
  refine call_meets PySem.F.slot_list_extend ⟨_, e1, rfl⟩ PySem.F.entry_list_extend (PySem.F.args_list_extend_2 _ _)
    (AutoSeq1.list_extend_list_list_0 l its.toArray n b ks.toArray m hg (by rw [List.size_toArray]; omega) (by omega)) ⟨e1, e2, ?_⟩
  refine ⟨.non, _, I.lset (its' := its ++ ks) hH e1 (by simp) (r1.append r2) ?_, rfl, q⟩
  rw [List.length_append]
  omega
/-! ### isinstance -/
def tyN : T → Option String
  | .im .non => some "NoneType"
  | .im (.bl _) => some "bool"
  | .im (.int _) => some "int"
  | .im (.str _) => some "str"
  | .im (.tup _) => some "tuple"
  | .tup _ => some "tuple"
  | .lst _ _ => some "list"
  | .dct _ _ _ _ => some "dict"
  | _ => none
def tyS : Ty → String
  | .int => "int"
  | .bool => "bool"
  | .str => "str"
  | .tuple => "tuple"
  | .list => "list"
  | .dict => "dict"
theorem SqT.tyX {a : Addr} {xs : List V} (h : SqT K H a xs) : TyX K H (.ref a) (.type "tuple") := by
  rcases h with (h | ⟨o, h⟩) | ⟨o, its, n, h1, h2, _⟩
  · exact .base (.tup h)
  · exact .fTuple h
  · exact .kTuple h1 h2
theorem Sp.tyX {n : String} (sp : Sp K ca H ps ((t, x) :: qs)) (e : tyN t = some n) : TyX K H x (.type n) := by
  unfold tyN at e
  split at e
  · cases e; obtain rfl := sp.non; exact .base .non
  · cases e; obtain rfl := sp.bl; exact .base (.bl _)
  · cases e; obtain rfl := sp.int; exact .base (.int _)
  · cases e; obtain rfl := sp.str; exact .base (.str _)
  · cases e
    obtain ⟨a, xs, rfl, h, _⟩ := sp.itemsT (ts := _) rfl
    exact SqT.tyX h
  · cases e
    obtain ⟨a, xs, rfl, h, _⟩ := sp.itemsT (ts := _) rfl
    exact SqT.tyX h
  · cases e
    obtain ⟨a, xs, rfl, h | ⟨o, h⟩ | ⟨its, n, h, _⟩, _⟩ := sp.itemsL
    · exact .base (.lst h)
    · exact .base (.frz h)
    · exact .kList h rfl
  · cases e
    obtain ⟨fp, sh, fq, sq, h1, h2, h3, ⟨f1, f2, s1, s2, r1, r2, rfl, rfl⟩, h5⟩ := sp
    rename_i o k ks ts
    unfold Rep at r1
    obtain ⟨a, xs, f, s, rfl, hd, r, rfl, rfl⟩ := r1
    cases k with
    | false => obtain ⟨kk, e1, e2, e3, _⟩ := hd; exact .base (.dK e3)
    | true => obtain ⟨kk, e1, e2, e3, _⟩ := hd; exact .base (.dT e3)
  · cases e
theorem isiF_ty {ty : Ty} {b : Bool} (e : isiF ty t = some b) : ∃ n, tyN t = some n ∧ kitB n (tyS ty) = some b := by
  cases t with
  | im d => cases d <;> cases ty <;> (cases e; exact ⟨_, rfl, by decide +kernel⟩)
  | tup _ => cases ty <;> (cases e; exact ⟨_, rfl, by decide +kernel⟩)
  | lst _ _ => cases ty <;> (cases e; exact ⟨_, rfl, by decide +kernel⟩)
  | dct _ _ _ _ => cases ty <;> (cases e; exact ⟨_, rfl, by decide +kernel⟩)
  | _ => cases ty <;> cases e
def rIsiF (K : PySem.W.Frag) (ca : Nat → Addr) (ty : Ty) : List V → Hp → VK → Prop := fun xs H Q => ∃ x t ps qs b, xs = [x, .ty (tyS ty)] ∧ Sp K ca H ps ((t, x) :: qs) ∧ isiF ty t = some b ∧ Q (.bl b) H
theorem isiC (ty : Ty) : CallR X (.builtin "isinstance") (rIsiF X.K ca ty) := by
  intro pins s σ H xs us Q I rv ⟨x, t, ps, qs, b, e, sp, hi, q⟩
  obtain ⟨n, h1, h2⟩ := isiF_ty hi
  exact call_isi pins s σ H xs us Q I rv ⟨x, _, _, _, b, e, .ty _, sp.tyX h1, kit_ty h2, q⟩
/-! ### what changes a list -/
def mnm : Mu → String
  | .append => "list.append"
  | .extend => "list.extend"
  | .pop => "list.pop"
  | .popAt => "list.pop"
  | _ => ""
def rMuF (K : PySem.W.Frag) (ca : Nat → Addr) (m : Mu) : V → List V → Hp → VK → Prop := fun x xs H Q => ∃ t ts ps t' r, Sp K ca H ((t, x) :: (ts.zip xs ++ ps)) [] ∧ ts.length = xs.length ∧ muF m t ts = some (t', r) ∧ ∀ v H', Sp K ca H' ((t', x) :: (r, v) :: ps) [] → Q v H'
theorem dropLast_snoc {α : Type} {l : List α} {a : α} (h : l.getLast? = some a) : l = l.dropLast ++ [a] := by
  obtain ⟨l', rfl⟩ := List.getLast?_eq_some_iff.mp h
  simp
theorem Sp.giveN' {p : T × V} (h : Sp K ca H (p :: ps) []) : Sp K ca H (p :: (.im .non, .non) :: ps) [] := (h.giveN).perm (.swap _ _ _)
theorem muM : ∀ m, mnm m ≠ "" → MtM X (mnm m) (rMuF X.K ca m) := by
  intro m hm pins s σ H x xs v us Q I rx rv ⟨t, ts, ps, t', r, sp, n, e, k⟩
  unfold muF at e
  split at e
  · split at e
    · rename_i hz
      cases e
      obtain ⟨y, rfl⟩ := len1 n
      obtain ⟨a, ys, rfl, ha, n2, so⟩ := sp.openL
      refine mt_append pins s σ H _ _ v us Q I rx rv ⟨a, ys, y, rfl, rfl, ha, by rw [← n2]; exact hz, k _ _ ?_⟩
      refine Sp.giveN' (Sp.closeL ?_ (by simp [n2]) upd_same)
      have so' := so.write (o := .lst (ys ++ [y])) rfl
      rw [zip_app n2, List.append_assoc]
      exact so'
    · cases e
  · split at e
    · rename_i ts0 x0 _ us' hs
      split at e
      · rename_i hc
        cases e
        simp only [Bool.and_eq_true, decide_eq_true_eq] at hc
        obtain ⟨c, hz⟩ := hc
        obtain ⟨y, rfl⟩ := len1 n
        have sp1 : Sp X.K ca H ((.lst true ts0, x) :: (x0, y) :: ps) [] := sp
        obtain ⟨p, zs, rfl, hq, n3, si⟩ := seqLT_sq (sp1.peek (p := (x0, y)) (by simp)) hs
        have sh := si.holds (cleans_zip c)
        have sh2 : Sp X.K ca H ((.lst true ts0, x) :: (us'.zip zs ++ ((x0, .ref p) :: ps))) [] := sh.perm List.perm_middle
        obtain ⟨a, ys, rfl, ha, n2, so⟩ := sh2.openL
        have w : Sp X.K ca (upd H a (.lst (ys ++ zs))) ((.lst true (ts0 ++ us'), .ref a) :: ps) [] := by
          have so' := so.write (o := .lst (ys ++ zs)) rfl
          refine Sp.closeL (ts := ts0 ++ us') (xs := ys ++ zs) ?_ (by simp [n2, n3]) upd_same
          rw [zip_app n2, List.append_assoc]
          refine Sp.drop1 (p := (x0, .ref p)) (so'.perm ?_)
          simpa [List.append_assoc] using (List.perm_middle (a := (x0, V.ref p)) (l₁ := (T.cell, V.ref a) :: (ts0.zip ys ++ us'.zip zs)) (l₂ := ps))
        rcases hq with hq | hq
        · have hb := hq
          exact mt_extendF pins s σ H _ _ v us Q I rx rv ⟨a, p, ys, zs, rfl, rfl, ha, hb, by rw [← n2, ← n3]; exact hz, k _ _ w.giveN'⟩
        · exact mt_extendT pins s σ H _ _ v us Q I rx rv ⟨a, p, ys, zs, rfl, rfl, ha, hq, by rw [← n2, ← n3]; exact hz, k _ _ w.giveN'⟩
      · cases e
    · cases e
  · split at e
    · rename_i y hg
      cases e
      have hx : xs = [] := by cases xs <;> simp at n ⊢
      subst hx
      obtain ⟨a, ys, rfl, ha, n2, so⟩ := sp.openL
      have hts := dropLast_snoc hg
      have hys : ys.getLast? ≠ none := by
        intro z
        have : ys = [] := by simpa using z
        subst this
        rw [hts] at n2
        simp at n2
      obtain ⟨v0, hv0⟩ := Option.ne_none_iff_exists'.mp hys
      have hyd := dropLast_snoc hv0
      have hl : ∀ q : List T, q.length = ys.length → q.dropLast.length = ys.dropLast.length := fun q h => by simp [h]
      refine mt_pop pins s σ H _ _ v us Q I rx rv ⟨a, ys, v0, rfl, rfl, ha, by rw [← List.getLast?_eq_getElem?]; exact hv0, k _ _ ?_⟩
      have so' := so.write (o := .lst ys.dropLast) rfl
      refine Sp.closeL ?_ (hl _ n2) upd_same
      refine so'.perm (.cons _ ?_)
      have e1 : ∀ q : List T, q = q.dropLast ++ [r] → q.length = ys.length → q.zip ys = q.dropLast.zip ys.dropLast ++ [(r, v0)] := fun q h1 h2 => by
        have h3 : q.zip ys = (q.dropLast ++ [r]).zip (ys.dropLast ++ [v0]) := by rw [← h1, ← hyd]
        rw [h3, zip_app (hl _ h2)]
        rfl
      rw [e1 _ hts n2]
      simp
    · cases e
  · cases e
end
end EV
set_option Elab.async false
set_option linter.all false
set_option maxRecDepth 100000
set_option maxHeartbeats 1000000
namespace EV
open PySem PySem.Spec L2
open PyProof.Rows hiding St
section
variable {X : Cx} {ca : Nat → Addr} {pins : List (Addr × Obj)} {σ : L2.St} {H : Hp} {s : Shared} {ps qs rs : Prs} {t u r : T} {x y : V} {K : PySem.W.Frag} {a : Addr}
/-! ### dicts of one's own -/
theorem Sp.openD {k : Bool} {ks : List D} {ts : List T} {v : V} (h : Sp K ca H ((.dct true k ks ts, v) :: ps) qs) : ∃ a xs, v = .ref a ∧ DRep H a k ks xs ∧ ts.length = xs.length ∧ Sp K ca H ((.cell, .ref a) :: (ts.zip xs ++ ps)) qs := by
  obtain ⟨fp, sh, fq, sq, ⟨f1, f2, s1, s2, r1, r2, rfl, rfl⟩, h2, h3, h4, h5⟩ := h
  unfold Rep at r1
  obtain ⟨a, xs, f, s, rfl, ha, r, e1, e2⟩ := r1
  obtain rfl : f1 = a :: f := e1
  obtain rfl : s1 = s := e2
  obtain ⟨e, r⟩ := reps_zip.mp r
  obtain ⟨o, ho, so⟩ := ha.trk
  refine ⟨a, xs, rfl, ha, e, a :: f ++ f2, s1 ++ s2, fq, sq, ⟨[a], f ++ f2, [], s1 ++ s2, by unfold Rep; exact ⟨a, o, rfl, rfl, rfl, ho, so⟩, RepP.append r r2, by simp, rfl⟩, h2, h3, h4, h5⟩
theorem Sp.closeD {k : Bool} {ks : List D} {ts : List T} {xs : List V} (h : Sp K ca H ((.cell, .ref a) :: (ts.zip xs ++ ps)) qs) (e : ts.length = xs.length) (ha : DRep H a k ks xs) : Sp K ca H ((.dct true k ks ts, .ref a) :: ps) qs := by
  obtain ⟨fp, sh, fq, sq, ⟨f1, f2, s1, s2, r1, r2, rfl, rfl⟩, h2, h3, h4, h5⟩ := h
  unfold Rep at r1
  obtain ⟨b, o', e', rfl, rfl, hb, sb⟩ := r1
  cases e'
  obtain ⟨g1, q1, g2, q2, w1, w2, rfl, rfl⟩ := RepP.split r2
  refine ⟨(a :: g1) ++ g2, q1 ++ q2, fq, sq, ⟨a :: g1, g2, q1, q2, ?_, w2, rfl, rfl⟩, by simpa using h2, fun b z w => h3 b (by simpa using z) (by simpa using w), h4, fun b z w => h5 b z (by simpa using w)⟩
  unfold Rep
  exact ⟨a, xs, g1, q1, rfl, ha, reps_zip.mpr ⟨e, w1⟩, rfl, rfl⟩
theorem split_at {α β : Type} : ∀ {l r : List α} {k : α} {xs : List β}, (l ++ k :: r).length = xs.length → ∃ xl x0 xr, xs = xl ++ x0 :: xr ∧ xl.length = l.length ∧ xr.length = r.length
  | [], r, k, xs, h => by
    cases xs with
    | nil => simp at h
    | cons x xs => exact ⟨[], x, xs, rfl, rfl, by simpa using h.symm⟩
  | a :: l, r, k, xs, h => by
    cases xs with
    | nil => simp at h
    | cons x xs =>
      obtain ⟨xl, x0, xr, e, h1, h2⟩ := split_at (l := l) (r := r) (k := k) (xs := xs) (by simpa using h)
      exact ⟨x :: xl, x0, xr, by simp [e], by simp [h1], h2⟩
theorem dput_new {d : D} {u : T} : ∀ {ks : List D} {ts : List T}, ks.length = ts.length → d ∉ ks → dput ks ts d u = (ks ++ [d], ts ++ [u])
  | [], [], _, _ => rfl
  | [], _ :: _, h, _ => by simp at h
  | _ :: _, [], h, _ => by simp at h
  | k :: ks, t :: ts, h, hn => by
    have h1 : ¬ k = d := fun z => hn (by simp [z])
    have := dput_new (d := d) (u := u) (ks := ks) (ts := ts) (by simpa using h) fun z => hn (by simp [z])
    simp [dput, h1, this]
theorem dput_old {d : D} {u t0 : T} {r : List D} {tr : List T} : ∀ {l : List D} {tl : List T}, tl.length = l.length → d ∉ l → dput (l ++ d :: r) (tl ++ t0 :: tr) d u = (l ++ d :: r, tl ++ u :: tr)
  | [], [], _, _ => by simp [dput]
  | [], _ :: _, h, _ => by simp at h
  | _ :: _, [], h, _ => by simp at h
  | k :: l, t :: tl, h, hn => by
    have h1 : ¬ k = d := fun z => hn (by simp [z])
    have := dput_old (d := d) (u := u) (t0 := t0) (r := r) (tr := tr) (l := l) (tl := tl) (by simpa using h) fun z => hn (by simp [z])
    simp [dput, h1, this]
theorem map_same {κ : Type} [DecidableEq κ] {k : κ} {v : V} : ∀ {l : List κ} {xl : List V}, k ∉ l → (l.zip xl).map (fun kv => if kv.1 = k then (kv.1, v) else kv) = l.zip xl
  | [], _, _ => by simp
  | a :: l, [], _ => by simp
  | a :: l, x :: xl, h => by
    have h1 : ¬ a = k := fun z => h (by simp [z])
    simp only [List.zip_cons_cons, List.map_cons, h1, if_false]
    rw [map_same fun z => h (by simp [z])]
theorem any_key {κ : Type} [DecidableEq κ] {k : κ} {kk : List κ} {xs : List V} (h : kk.length = xs.length) : ((kk.zip xs).any fun kv => decide (kv.1 = k)) = decide (k ∈ kk) := by
  induction kk generalizing xs with
  | nil => simp
  | cons a kk ih =>
    cases xs with
    | nil => simp at h
    | cons x xs =>
      rw [List.zip_cons_cons, List.any_cons, ih (by simpa using h)]
      by_cases e : a = k
      · simp [e]
      · have e' : ¬ k = a := fun z => e z.symm
        simp [e, e']
/-- a key is set: which keys, which values, which pairs -/
theorem put_ok {κ : Type} [DecidableEq κ] {f : κ → D} (inj : ∀ a b, f a = f b → a = b) {k : κ} {v : V} {kk : List κ} {xs : List V} {ts : List T} (n1 : kk.length = xs.length) (n2 : ts.length = xs.length) (nd : kk.Nodup) :
    ∃ (kk' : List κ) (xs' : List V), (dput (kk.map f) ts (f k) u).1 = kk'.map f ∧ kk'.length = xs'.length ∧ (dput (kk.map f) ts (f k) u).2.length = xs'.length ∧ putK (kk.zip xs) k v = kk'.zip xs' ∧ kk'.Nodup ∧
      ∃ dr : Prs, ((u, v) :: ts.zip xs).Perm (dr ++ (dput (kk.map f) ts (f k) u).2.zip xs') := by
  by_cases hk : k ∈ kk
  · obtain ⟨l, r, rfl⟩ := List.append_of_mem hk
    have hl : k ∉ l := fun z => by
      have := (List.nodup_append.mp nd).2.2 k z k (by simp)
      exact this rfl
    have hr : k ∉ r := (List.nodup_cons.mp (List.nodup_append.mp nd).2.1).1
    obtain ⟨xl, x0, xr, rfl, e1, e2⟩ := split_at n1
    obtain ⟨tl, t0, tr, rfl, e3, e4⟩ := split_at (l := xl) (r := xr) (k := x0) (xs := ts) n2.symm
    have hl' : f k ∉ l.map f := fun z => by
      obtain ⟨b, hb, e⟩ := List.mem_map.mp z
      exact hl (inj _ _ e ▸ hb)
    have hd : dput ((l ++ k :: r).map f) (tl ++ t0 :: tr) (f k) u = ((l ++ k :: r).map f, tl ++ u :: tr) := by
      rw [List.map_append, List.map_cons]
      exact dput_old (by simp [e3, e1]) hl'
    rw [hd]
    refine ⟨l ++ k :: r, xl ++ v :: xr, rfl, by simpa using n1, by simpa using n2, ?_, nd, [(t0, x0)], ?_⟩
    · unfold putK
      rw [any_key n1, if_pos (by simp)]
      rw [List.zip_append e1.symm, List.zip_append e1.symm, List.zip_cons_cons, List.zip_cons_cons, List.map_append, List.map_cons, map_same hl, map_same hr]
      simp
    · show ((u, v) :: (tl ++ t0 :: tr).zip (xl ++ x0 :: xr)).Perm ([(t0, x0)] ++ (tl ++ u :: tr).zip (xl ++ v :: xr))
      rw [List.zip_append e3, List.zip_append e3, List.zip_cons_cons, List.zip_cons_cons]
      have p1 : (tl.zip xl ++ (t0, x0) :: tr.zip xr).Perm ((t0, x0) :: (tl.zip xl ++ tr.zip xr)) := List.perm_middle
      have p2 : (tl.zip xl ++ (u, v) :: tr.zip xr).Perm ((u, v) :: (tl.zip xl ++ tr.zip xr)) := List.perm_middle
      exact (p1.cons _).trans ((List.Perm.swap _ _ _).trans (p2.symm.cons _))
  · have hk' : f k ∉ kk.map f := fun z => by
      obtain ⟨b, hb, e⟩ := List.mem_map.mp z
      exact hk (inj _ _ e ▸ hb)
    rw [dput_new (by simp [n1, n2]) hk']
    refine ⟨kk ++ [k], xs ++ [v], by simp, by simp [n1], by simp [n2], ?_, ?_, [], ?_⟩
    · unfold putK
      rw [any_key n1, if_neg (by simp [hk]), List.zip_append n1]
      rfl
    · exact List.nodup_append.mpr ⟨nd, by simp, fun a ha b hb => by simp at hb; subst hb; exact fun z => hk (z ▸ ha)⟩
    · show ((u, v) :: ts.zip xs).Perm ((ts ++ [u]).zip (xs ++ [v]))
      rw [zip_app n2]
      exact (List.perm_append_comm (l₁ := [(u, v)]) (l₂ := ts.zip xs))
theorem Sp.dropP {dr : Prs} {l : Prs} {p : T × V} (h : Sp K ca H (p :: (l ++ ps)) qs) {m : Prs} (q : l.Perm (dr ++ m)) : Sp K ca H (p :: (m ++ ps)) qs := by
  refine Sp.drop (ps := dr) (h.perm ?_)
  have e1 : (p :: (l ++ ps)).Perm (p :: (dr ++ m ++ ps)) := (q.append_right ps).cons p
  refine e1.trans ?_
  rw [List.append_assoc]
  exact (List.perm_middle (a := p) (l₁ := dr) (l₂ := m ++ ps)).symm
/-! ### x[k] = v -/
theorem set_zip {ts : List T} {xs : List V} {j : Nat} (n : ts.length = xs.length) (hj : j < xs.length) {v : V} : ∃ p, ((u, v) :: ts.zip xs).Perm ([p] ++ (ts.set j u).zip (xs.set j v)) := by
  have hj' : j < ts.length := by omega
  have e1 : ts = ts.take j ++ ts[j] :: ts.drop (j + 1) := by simp
  have e2 : xs = xs.take j ++ xs[j] :: xs.drop (j + 1) := by simp
  have z1 : ts.zip xs = (ts.take j).zip (xs.take j) ++ (ts[j], xs[j]) :: (ts.drop (j + 1)).zip (xs.drop (j + 1)) := by
    have : ts.zip xs = (ts.take j ++ ts[j] :: ts.drop (j + 1)).zip (xs.take j ++ xs[j] :: xs.drop (j + 1)) := by rw [← e1, ← e2]
    rw [this, List.zip_append (by simp [n]), List.zip_cons_cons]
  have z2 : (ts.set j u).zip (xs.set j v) = (ts.take j).zip (xs.take j) ++ (u, v) :: (ts.drop (j + 1)).zip (xs.drop (j + 1)) := by
    rw [List.set_eq_take_append_cons_drop, List.set_eq_take_append_cons_drop, if_pos hj', if_pos hj, List.zip_append (by simp [n]), List.zip_cons_cons]
  refine ⟨(ts[j], xs[j]), ?_⟩
  rw [z1, z2]
  have p1 : ((ts.take j).zip (xs.take j) ++ (ts[j], xs[j]) :: (ts.drop (j + 1)).zip (xs.drop (j + 1))).Perm ((ts[j], xs[j]) :: ((ts.take j).zip (xs.take j) ++ (ts.drop (j + 1)).zip (xs.drop (j + 1)))) := List.perm_middle
  have p2 : ((ts.take j).zip (xs.take j) ++ (u, v) :: (ts.drop (j + 1)).zip (xs.drop (j + 1))).Perm ((u, v) :: ((ts.take j).zip (xs.take j) ++ (ts.drop (j + 1)).zip (xs.drop (j + 1)))) := List.perm_middle
  exact (p1.cons _).trans ((List.Perm.swap _ _ _).trans (p2.symm.cons _))
def rSetF (K : PySem.W.Frag) (ca : Nat → Addr) : V → V → V → Hp → (Hp → Prop) → Prop := fun o i v H Q => ∃ t k u ps t', Sp K ca H ((t, o) :: (u, v) :: ps) [(k, i)] ∧ setF t k u = some t' ∧ ∀ H', Sp K ca H' ((t', o) :: ps) [] → Q H'
theorem setOk (hu : X.A.units + 150 < cLine) : PSet X (rSetF X.K ca) := by
  intro pins s σ H o i v ov iv w Q I ro ri rv ⟨t, k, u, ps, t', sp, e, q⟩
  have L : ∀ (ts : List T) (n j : Nat) (k0 : Int), t = .lst true ts → i = .int k0 → ixN ts.length k0 = some j → t' = .lst true (ts.set j u) → wpAny (model X.prog X.w) X.A (setItem ov iv w) (fun _ s' => ∃ H', L2.Inv X pins σ H' s' ∧ Q H') X.xe s := by
    intro ts n j k0 e1 e2 e3 e4
    subst e1 e2 e4
    obtain ⟨a, xs, rfl, ha, n1, so⟩ := sp.noq.openL
    rw [n1] at e3
    refine set_list pins s σ H _ _ v ov iv w Q I ro ri rv ⟨a, xs, k0, j, rfl, rfl, ha, e3, q _ ?_⟩
    have hj := (ixN_seq e3).2.1
    obtain ⟨p, hp⟩ := set_zip (u := u) (v := v) n1 hj
    have so' := so.write (o := .lst (xs.set j v)) rfl
    refine Sp.closeL ?_ (by simp [n1]) upd_same
    refine Sp.dropP (dr := [p]) (l := (u, v) :: ts.zip xs) (so'.perm (.cons _ ?_)) hp
    exact List.perm_middle
  unfold setF at e
  split at e
  · rename_i x1 ts k0
    have hk := sp.int
    split at e
    · rename_i h0
      split at e
      · rename_i h1
        cases e
        exact L ts 0 k0.toNat k0 rfl hk (by unfold ixN; rw [if_pos h0, if_pos h1]) rfl
      · cases e
    · rename_i h0
      split at e
      · rename_i h1
        cases e
        exact L ts 0 (k0 + ts.length).toNat k0 rfl hk (by unfold ixN; rw [if_neg h0, if_pos h1]) rfl
      · cases e
  · rename_i _ kt ks ts d
    split at e
    · rename_i hc
      simp only [Bool.and_eq_true, decide_eq_true_eq] at hc
      obtain ⟨hk, hz⟩ := hc
      cases kt with
      | true => exact False.elim (by simp [isKey] at hk)
      | false =>
        cases e
        obtain ⟨kk0, rfl⟩ := kD_leaf hk
        have := repD_kD sp.dat
        subst this
        obtain ⟨a, xs, rfl, ⟨kk, rfl, n1, hH, nd⟩, n2, so⟩ := sp.noq.openD
        cases ro
        obtain ⟨kk', xs', e1, e2, e3, e4, e5, dr, e6⟩ := put_ok (u := u) (v := v) (f := kD) (fun _ _ => kD_inj) (k := kk0) n1 n2 nd
        refine d_setItem (A := X.A) (by omega) I (DPut.k hH (by rw [List.length_zip, n1, Nat.min_self, ← n1]; exact (show kk.length < SL by simpa using hz))) ri rv fun s' I' => ⟨_, I', q _ ?_⟩
        have so' := so.write (o := .dK (putK (kk.zip xs) kk0 v)) rfl
        refine Sp.closeD (ks := _) (xs := xs') ?_ e3 ⟨kk', e1, e2, by rw [← e4]; exact upd_same, e5⟩
        refine Sp.dropP (dr := dr) (l := (u, v) :: ts.zip xs) (so'.perm (.cons _ ?_)) e6
        exact List.perm_middle
    · cases e
  · cases e
end
end EV
set_option Elab.async false
set_option linter.all false
set_option maxRecDepth 100000
set_option maxHeartbeats 1000000
namespace EV
open PySem PySem.Spec L2
open PyProof.Rows hiding St
section
variable {X : Cx} {ca : Nat → Addr} {W : WX} {pk : Bool} {cl : Call} {pos p1 p2 p3 : Pos} {ea eb ec : Expr} {a b c : E} {n : Nat}
variable {τ τ' : Env} {σ : L2.St} {Θ Θ' : Prs} {H H' : Hp} {t u : T} {v x : V} {K : PySem.W.Frag}
/-! ### what is held, once more -/
theorem Got.mk' (f : Fits τ σ) {ps : Prs} (h : Sp K ca H ((t, v) :: ps) []) (e : ps = prs τ σ ++ Θ) : Got K ca pk τ σ Θ H t v := .of f (e ▸ h)
theorem Got.mkD (f : Fits τ σ) (h : Sp K ca H ((t, v) :: (prs τ σ ++ (Θ' ++ Θ))) []) : Got K ca pk τ σ Θ H t v := Got.down (Θ' := Θ') (.of f h)
/-- a name, read as it stands -/
theorem L_late {i : Nat} {Q : VK} (f : Fits τ σ) (ht : τ.at i = some t) (k : ∀ v, σ[i]? = some (some v) → Q v H) : tVar i σ H Q := by
  obtain ⟨v, hv⟩ := f.has i t ht
  exact ⟨v, hv, k v hv⟩
/-- a constant -/
def cV : D → Option V
  | .non => some .non
  | .bl b => some (.bl b)
  | .int i => some (.int i)
  | .str s => some (.str s)
  | .tup _ => none
theorem cV_rep {d : D} (h : cV d = some v) : RepD K H d v := by
  cases d <;> simp [cV] at h <;> (subst h; unfold RepD; rfl)
theorem L_c {e : Expr} {d : D} (h : PE X e (tC v)) (hv : cV d = some v) : PE X e (tE X.K ca W pk (evX cl pk (.c d))) := by
  refine PE.imp h fun σ H Q ⟨τ, Θ, o, q⟩ => ?_
  simp only [evX, Out] at q
  exact q v H (.of o.fit (o.sp.addD (cV_rep hv)))
theorem L_g {e : Expr} {nm : Str} (h : PE X e (tC v)) (hc : T.clean t = true) (hg : ∀ ps H, Sp X.K ca H ps [] → Sp X.K ca H ((t, v) :: ps) []) : PE X e (tE X.K ca W pk (evX cl pk (.g nm t))) := by
  refine PE.imp h fun σ H Q ⟨τ, Θ, o, q⟩ => ?_
  simp only [evX, pick, hc, Bool.or_true, if_true, Out] at q
  exact q v H (.of o.fit (hg _ _ o.sp))
theorem L_v {e : Expr} {i : Nat} (h : PE X e (tVar i)) : PE X e (tE X.K ca W pk (evX cl pk (.v i))) := by
  refine PE.imp h fun σ H Q ⟨τ, Θ, o, q⟩ => ?_
  simp only [evX] at q
  cases ht : τ.at i with
  | none => rw [ht] at q; exact q.elim
  | some t =>
    rw [ht] at q
    refine L_late o.fit ht fun v hv => ?_
    simp only at q
    split at q
    · rename_i hp
      refine q v H ⟨o.fit, ?_⟩
      obtain ⟨v', hv', sp⟩ := o.peek ht
      rw [hv] at hv'
      cases hv'
      cases pk with
      | true => simpa using sp
      | false => simpa using sp.hold (by simpa using hp)
    · refine q v H ?_
      obtain ⟨v', hv', sp⟩ := o.slot ht
      rw [hv] at hv'
      cases hv'
      have sf := sp.frz
      have hi := at_lt ht
      have sf2 : Sp X.K ca H ((T.frz t, v) :: (T.frz t, v) :: (prs (τ.set i none) σ ++ Θ)) [] := sf.peek1.hold (T.frz_clean t)
      have f' : Fits (τ.set i (some (T.frz t))) σ := o.fit.setT ht
      refine .of f' (sf2.perm (.cons _ ?_))
      exact (prs_put hv hi).symm.append_right Θ
theorem L_mv {e : Expr} {i : Nat} (h : PE X e (tVar i)) : PE X e (tE X.K ca W pk (evX cl pk (.mv i))) := by
  refine PE.imp h fun σ H Q ⟨τ, Θ, o, q⟩ => ?_
  simp only [evX] at q
  cases ht : τ.at i with
  | none => rw [ht] at q; exact q.elim
  | some t =>
    rw [ht] at q
    refine L_late o.fit ht fun v hv => q v H ?_
    obtain ⟨v', hv', sp⟩ := o.slot ht
    rw [hv] at hv'
    cases hv'
    exact .of (o.fit.setN i) sp
/-! ### two operands -/
/-- how the first one is given -/
def isV : E → Option Nat
  | .v i => some i
  | _ => none
theorem two_v {i : Nat} {ra rb : Env → Res T} : two (.v i) ra rb τ = (match τ.at i with
    | some _ => (rb τ).bind fun tb τ1 => ret ((τ1.at i).map fun ta => (ta, tb)) τ1
    | none => .bad) := rfl
theorem two_n (h : isV a = none) {ra rb : Env → Res T} : two a ra rb τ = (ra τ).bind fun ta τ1 => (rb τ1).bind fun tb τ2 => .ok (ta, tb) τ2 := by
  cases a <;> first | rfl | (simp [isV] at h)
/-- the first operand's reading -/
def firstTE (K : PySem.W.Frag) (ca : Nat → Addr) (W : WX) (cl : Call) (a : E) : TE := match isV a with
  | some i => tVar i
  | none => tE K ca W false (evX cl false a)
theorem isV_some {i : Nat} (h : isV a = some i) : a = .v i := by
  cases a <;> simp [isV] at h
  rw [h]
theorem Ow.look (o : Ow K ca τ σ Θ H) {i : Nat} (h : τ.at i = some t) (hv : σ[i]? = some (some v)) {qs : Prs} (sp : Sp K ca H (prs τ σ ++ Θ) qs) : Sp K ca H (prs τ σ ++ Θ) ((t, v) :: qs) :=
  sp.peek (List.mem_append_left _ ((prs_out h hv).mem_iff.mpr (by simp)))
theorem mid_mem {p : T × V} {l Θ : Prs} : p ∈ l ++ p :: Θ := by simp
/-- a value made of what is looked at -/
theorem Got.give {tb : T} {vb : V} (g : Got K ca true τ σ Θ H tb vb) : Sp K ca H (prs τ σ ++ Θ) [(tb, vb)] := g.look
theorem two_imp {F : T → T → Option T} {Q : VK} (h : tE K ca W pk (fun τ => (two a (evX cl false a) (evX cl true b) τ).bind fun p τ => ret (F p.1 p.2) τ) σ H Q) :
    tOp (rP2 K ca F) (firstTE K ca W cl a) (tE K ca W true (evX cl true b)) σ H Q := by
  obtain ⟨τ, Θ, o, q⟩ := h
  unfold firstTE
  cases hv : isV a with
  | some i =>
    obtain rfl := isV_some hv
    simp only [two_v] at q
    cases ht : τ.at i with
    | none => rw [ht] at q; exact q.elim
    | some t0 =>
      rw [ht] at q
      show tVar i σ H fun x H1 => tE K ca W true (evX cl true b) σ H1 fun y H2 => rP2 K ca F x y H2 Q
      refine L_late o.fit ht fun v hv => tE.use o (Out.bind (Out.bind q)) fun tb τ1 vb H1 p g => ?_
      obtain ⟨⟨ta, tb'⟩, e1, p⟩ := Out.ret p
      obtain ⟨ta', e2, e3⟩ := Option.map_eq_some_iff.mp e1
      cases e3
      obtain ⟨r, e4, p⟩ := Out.ret p
      have sp := g.base.look e2 hv g.look
      exact ⟨ta, tb, _, [], r, sp, e4, fun v' H' s' => p v' H' (.of g.fit s')⟩
  | none =>
    simp only [two_n hv] at q
    refine tE.use o (Out.bind (Out.bind q)) fun ta τ1 va H1 p g => ?_
    refine tE.use1 (Θ' := [(ta, va)]) g.ow (Out.bind p) fun tb τ2 vb H2 p2 g2 => ?_
    obtain ⟨r, e4, p⟩ := Out.ret p2
    have sp : Sp K ca H2 (prs τ2 σ ++ ([(ta, va)] ++ Θ)) ((ta, va) :: [(tb, vb)]) := g2.look.peek (by simp)
    exact ⟨ta, tb, _, [], r, sp, e4, fun v' H' s' => p v' H' (Got.mkD g2.fit s')⟩
theorem L_bin {o : Bo} (ha : PE X ea (firstTE X.K ca W cl a)) (hb : PE X eb (tE X.K ca W true (evX cl true b))) : PE X (.BinOp ea (bop o) eb pos) (tE X.K ca W pk (evX cl pk (.bin o a b))) := by
  refine PE.imp (pe_op (opB (ca := ca) o) ha hb) fun σ H Q h => ?_
  simp only [evX] at h
  exact two_imp h
theorem L_cmp {o : Co} (hu : X.A.units + 150 < cLine) (ha : PE X ea (firstTE X.K ca W cl a)) (hb : PE X eb (tE X.K ca W true (evX cl true b))) (hm : behindInMarks (cop o) eb = false) : PE X (.Compare ea [cop o] [eb] pos) (tE X.K ca W pk (evX cl pk (.cmp o a b))) := by
  refine PE.imp (pe_cmpR (opC (ca := ca) hu o) ha hb hm) fun σ H Q h => ?_
  simp only [evX] at h
  exact two_imp (F := coT o) h
end
end EV
set_option Elab.async false
set_option linter.all false
set_option maxRecDepth 100000
set_option maxHeartbeats 1000000
namespace EV
open PySem PySem.Spec L2
open PyProof.Rows hiding St
section
variable {X : Cx} {ca : Nat → Addr} {W : WX} {pk : Bool} {cl : Call} {pos p1 p2 p3 : Pos} {ea eb ec : Expr} {a b c : E} {n : Nat}
variable {τ τ' : Env} {σ : L2.St} {Θ Θ' : Prs} {H H' : Hp} {t u : T} {v x : V} {K : PySem.W.Frag}
/-! ### tests -/
def tT (K : PySem.W.Frag) (ca : Nat → Addr) (W : WX) (m : Env → Res Bool) : TT := fun σ H Q => ∃ τ Θ, Ow K ca τ σ Θ H ∧ Out (m τ) (fun b τ' => ∀ H', Ow K ca τ' σ Θ H' → Q b H') (EXC K ca W σ Θ)
theorem tT.use {m : Env → Res Bool} {Q : Bool → Hp → Prop} {P : Bool → Env → Prop} (o : Ow K ca τ σ Θ H) (h : Out (m τ) P (EXC K ca W σ Θ))
    (f : ∀ b τ' H', P b τ' → Ow K ca τ' σ Θ H' → Q b H') : tT K ca W m σ H Q :=
  ⟨τ, Θ, o, h.imp (fun t τ' p H' g => f t τ' H' p g) fun _ _ _ z => z⟩
/-- the truth of an expression -/
abbrev evB (cl : Call) (e : E) : Env → Res Bool := fun τ => (evX cl true e τ).bind fun t τ => ret (truF t) τ
def blOnly (m : Env → Res T) : Prop := ∀ τ t τ', m τ = .ok t τ' → ∃ b, t = .im (.bl b)
theorem blOnly.out {m : Env → Res T} (h : blOnly m) {P : Bool → Env → Prop} {EX : Nat → T → Env → Prop} (q : Out ((m τ).bind fun t τ => ret (truF t) τ) P EX) : Out (m τ) (fun t τ' => ∃ b, t = .im (.bl b) ∧ P b τ') EX := by
  cases e : m τ with
  | ok t τ' =>
    rw [e] at q
    obtain ⟨b, rfl⟩ := h _ _ _ e
    exact ⟨b, rfl, q⟩
  | exc c v τ' => rw [e] at q; exact q
  | bad => rw [e] at q; exact q
theorem Got.blV {b : Bool} (g : Got K ca pk τ σ Θ H (.im (.bl b)) v) : v = .bl b := by
  cases pk with
  | true => exact g.look.bl
  | false => exact g.keep.peek1.bl
theorem blOnly.test {m : Env → Res T} (h : blOnly m) {Q : Bool → Hp → Prop} (q : tT K ca W (fun τ => (m τ).bind fun t τ => ret (truF t) τ) σ H Q) : tE K ca W true m σ H fun x H' => ∃ k, x = .bl k ∧ Q k H' := by
  obtain ⟨τ, Θ, o, q⟩ := q
  refine tE.use o (h.out q) fun t τ' v H' ⟨b, e, p⟩ g => ?_
  subst e
  exact ⟨b, g.blV, p _ g.base⟩
theorem bl_ret {α : Type} {m : Env → Res α} {F : α → Option Bool} : blOnly fun τ => (m τ).bind fun p τ => ret ((F p).map fun b => T.im (.bl b)) τ := fun τ t τ' e => by
  cases h : m τ with
  | ok p τ1 =>
    simp only [h, bind_ok] at e
    cases h2 : F p with
    | none => rw [h2] at e; cases e
    | some b => rw [h2] at e; cases e; exact ⟨b, rfl⟩
  | exc c v τ1 => simp only [h, bind_exc] at e; cases e
  | bad => simp only [h, bind_bad] at e; cases e
theorem bl_cmp {o : Co} : blOnly (evX cl true (.cmp o a b)) := by
  have := bl_ret (m := fun τ => two a (evX cl false a) (evX cl true b) τ) (F := fun p => coF o p.1 p.2)
  simpa only [evX] using this
/-- any expression as a test -/
theorem T_any (h : PE X ea (tE X.K ca W true (evX cl true a))) (he : ∀ whole, isTrue ea X.env whole = (do let v ← whole; standAt ea.pos; holding [v] (truthy v))) : PT X ea (tT X.K ca W (evB cl a)) := by
  refine PT.imp (pt_truth h he) fun σ H Q ⟨τ, Θ, o, q⟩ => ?_
  refine tE.use o (Out.bind q) fun t τ' v H' p g => ?_
  obtain ⟨b, e, p⟩ := Out.ret p
  exact ⟨b, truV g.look e, p _ g.base⟩
theorem T_cmp {o : Co} (hu : X.A.units + 150 < cLine) (ha : PE X ea (firstTE X.K ca W cl a)) (hb : PE X eb (tE X.K ca W true (evX cl true b))) (hm : behindInMarks (cop o) eb = false) : PT X (.Compare ea [cop o] [eb] pos) (tT X.K ca W (evB cl (.cmp o a b))) := by
  refine PT.imp (pt_cmpR (opC (ca := ca) hu o) ha hb hm) fun σ H Q h => ?_
  have h2 := bl_cmp.test h
  simp only [evX] at h2
  exact two_imp (F := coT o) h2
/-! ### chains -/
theorem Got.sp1 (g : Got K ca pk τ σ Θ H t v) (h : pk = false) : Sp K ca H ((t, v) :: (prs τ σ ++ Θ)) [] := by
  subst h
  exact g.keep
theorem chn_go {o p : Co} {Q : VK} {Θ0 : Prs} {tb : T} {vb va : V} {ta : T} {τ2 : Env} {H2 : Hp} (g : Got K ca false τ2 σ (Θ0 ++ Θ) H2 tb vb) (sp : Sp K ca H2 ((tb, vb) :: (prs τ2 σ ++ (Θ0 ++ Θ))) [(ta, va)])
    (q : Out (match coF o ta tb with
      | some true => (evX cl true c τ2).bind fun tc τ => ret ((coF p tb tc).map fun b => T.im (.bl b)) τ
      | some false => .ok (.im (.bl false)) τ2
      | none => .bad) (fun t τ' => ∀ v H', Got K ca pk τ' σ Θ H' t v → Q v H') (EXC K ca W σ Θ)) :
    rP2 K ca (coT o) va vb H2 fun z H3 => ∃ k, z = .bl k ∧ (if k = true then tE K ca W true (evX cl true c) σ H3 fun w' H4 => rP2 K ca (coT p) vb w' H4 Q else Q (.bl false) H3) := by
  cases e : coF o ta tb with
  | none => rw [e] at q; exact q.elim
  | some k =>
    refine ⟨ta, tb, (tb, vb) :: (prs τ2 σ ++ (Θ0 ++ Θ)), [], .im (.bl k), ?_, by unfold coT; rw [e]; rfl, fun v' H' s' => ?_⟩
    · have := sp.peek1
      exact this.swapq
    · have hv := s'.peek1.bl
      refine ⟨k, hv, ?_⟩
      have ow : Ow K ca τ2 σ ((tb, vb) :: (Θ0 ++ Θ)) H' := ⟨g.fit, s'.drop1.perm (List.perm_middle.symm)⟩
      cases k with
      | false =>
        rw [e] at q
        refine if_neg (by decide) |>.mpr (q _ _ (Got.down (Θ' := (tb, vb) :: Θ0) (.of g.fit ?_)))
        exact ow.sp.giveB
      | true =>
        rw [e] at q
        refine if_pos rfl |>.mpr (tE.use1 (Θ' := (tb, vb) :: Θ0) ow (Out.bind q) fun tc τ3 vc H3 p3 g3 => ?_)
        obtain ⟨r, e4, p⟩ := Out.ret p3
        exact ⟨tb, tc, _, [], r, g3.look.peek (by simp), e4, fun v'' H'' s'' => p v'' H'' (Got.mkD (Θ' := (tb, vb) :: Θ0) g3.fit s'')⟩
theorem chn_imp {o p : Co} {Q : VK} (h : tE K ca W pk (evX cl pk (.chn o p a b c)) σ H Q) :
    tChain (rP2 K ca (coT o)) (rP2 K ca (coT p)) (firstTE K ca W cl a) (tE K ca W false (evX cl false b)) (tE K ca W true (evX cl true c)) σ H Q := by
  obtain ⟨τ, Θ, ow, q⟩ := h
  simp only [evX] at q
  unfold firstTE
  cases hv : isV a with
  | some i =>
    obtain rfl := isV_some hv
    simp only [two_v] at q
    cases ht : τ.at i with
    | none => rw [ht] at q; exact q.elim
    | some t0 =>
      rw [ht] at q
      show tVar i σ H fun x H1 => tE K ca W false (evX cl false b) σ H1 fun y H2 => rP2 K ca (coT o) x y H2 fun z H3 => ∃ k, z = .bl k ∧ (if k = true then tE K ca W true (evX cl true c) σ H3 fun w' H4 => rP2 K ca (coT p) y w' H4 Q else Q (.bl false) H3)
      refine L_late ow.fit ht fun va hva => tE.use ow (Out.bind (Out.bind q)) fun tb τ1 vb H1 p1 g => ?_
      obtain ⟨⟨ta, tb'⟩, e1, p1⟩ := Out.ret p1
      obtain ⟨ta', e2, e3⟩ := Option.map_eq_some_iff.mp e1
      cases e3
      refine chn_go (Θ0 := []) g ?_ p1
      exact (g.keep).peek (List.mem_cons_of_mem _ (List.mem_append_left _ ((prs_out e2 hva).mem_iff.mpr (by simp))))
  | none =>
    simp only [two_n hv] at q
    show tE K ca W false (evX cl false a) σ H fun x H1 => tE K ca W false (evX cl false b) σ H1 fun y H2 => rP2 K ca (coT o) x y H2 fun z H3 => ∃ k, z = .bl k ∧ (if k = true then tE K ca W true (evX cl true c) σ H3 fun w' H4 => rP2 K ca (coT p) y w' H4 Q else Q (.bl false) H3)
    refine tE.use ow (Out.bind (Out.bind q)) fun ta τ1 va H1 p1 g => ?_
    refine tE.use1 (Θ' := [(ta, va)]) g.ow (Out.bind p1) fun tb τ2 vb H2 p2 g2 => ?_
    exact chn_go (Θ0 := [(ta, va)]) g2 (g2.keep.peek (by simp)) p2
theorem bl_chn {o p : Co} : blOnly (evX cl true (.chn o p a b c)) := fun τ t τ' e => by
  simp only [evX] at e
  cases h : two a (evX cl false a) (evX cl false b) τ with
  | ok q τ1 =>
    simp only [h, bind_ok] at e
    split at e
    · exact bl_ret (m := evX cl true c) (F := fun tc => coF p q.2 tc) _ _ _ e
    · cases e; exact ⟨_, rfl⟩
    · cases e
  | exc c v τ1 => simp only [h, bind_exc] at e; cases e
  | bad => simp only [h, bind_bad] at e; cases e
theorem L_chn {o p : Co} (hu : X.A.units + 150 < cLine) (ha : PE X ea (firstTE X.K ca W cl a)) (hb : PE X eb (tE X.K ca W false (evX cl false b))) (hc : PE X ec (tE X.K ca W true (evX cl true c))) (hm : lastMarks [cop o, cop p] [eb, ec] = false) :
    PE X (.Compare ea [cop o, cop p] [eb, ec] pos) (tE X.K ca W pk (evX cl pk (.chn o p a b c))) :=
  PE.imp (pe_chain (opC (ca := ca) hu o) (opC (ca := ca) hu p) ha hb hc hm) fun σ H Q h => chn_imp h
theorem T_chn {o p : Co} (hu : X.A.units + 150 < cLine) (ha : PE X ea (firstTE X.K ca W cl a)) (hb : PE X eb (tE X.K ca W false (evX cl false b))) (hc : PE X ec (tE X.K ca W true (evX cl true c))) (hm : lastMarks [cop o, cop p] [eb, ec] = false) :
    PT X (.Compare ea [cop o, cop p] [eb, ec] pos) (tT X.K ca W (evB cl (.chn o p a b c))) :=
  PT.imp (pt_chain (opC (ca := ca) hu o) (opC (ca := ca) hu p) ha hb hc hm) fun σ H Q h => chn_imp (bl_chn.test h)
/-! ### not, and, or -/
theorem L_nt (h : PE X ea (tE X.K ca W true (evX cl true a))) : PE X (.UnaryOp .Not ea pos) (tE X.K ca W pk (evX cl pk (.nt a))) := by
  refine PE.imp (pe_notT h) fun σ H Q ⟨τ, Θ, o, q⟩ => ?_
  simp only [evX] at q
  refine tE.use o (Out.bind q) fun t τ' v H' p g => ?_
  obtain ⟨r, e, p⟩ := Out.ret p
  obtain ⟨b, e1, rfl⟩ := Option.map_eq_some_iff.mp e
  exact ⟨b, truV g.look e1, p _ _ (.of g.fit g.look.giveB)⟩
theorem T_nt (h : PT X ea (tT X.K ca W (evB cl a))) : PT X (.UnaryOp .Not ea pos) (tT X.K ca W (evB cl (.nt a))) := by
  refine PT.imp (pt_not h) fun σ H Q ⟨τ, Θ, o, q⟩ => ?_
  have q2 : Out (evB cl a τ) (fun b τ' => ∀ H', Ow X.K ca τ' σ Θ H' → Q (!b) H') (EXC X.K ca W σ Θ) := by
    simp only [evB, evX] at q ⊢
    cases e : evX cl true a τ with
    | ok t τ1 =>
      simp only [e, bind_ok] at q ⊢
      cases e2 : truF t with
      | none => rw [e2] at q; exact q.elim
      | some b => rw [e2] at q; exact q
    | exc cc vv τ1 => simp only [e, bind_exc] at q ⊢; exact q
    | bad => simp only [e, bind_bad] at q; exact q.elim
  exact tT.use o q2 fun b τ' H' p g => p H' g
theorem L_and {rest : List Expr} (ha : PE X ea (tE X.K ca W pk (evX cl pk a))) (hb : PE X (.BoolOp .And (eb :: rest) pos) (tE X.K ca W pk (evX cl pk b))) : PE X (.BoolOp .And (ea :: eb :: rest) pos) (tE X.K ca W pk (evX cl pk (.and_ a b))) := by
  refine PE.imp (pe_and ha hb) fun σ H Q ⟨τ, Θ, o, q⟩ => ?_
  simp only [evX] at q
  refine tE.use o (Out.bind q) fun t τ' v H' p g => ?_
  split at p
  · exact ⟨true, g.blV, ⟨τ', Θ, g.base, p⟩⟩
  · exact ⟨false, g.blV, p _ _ (.of g.fit (by simpa using g.base.sp.giveB))⟩
  · exact p.elim
theorem L_or {rest : List Expr} (ha : PE X ea (tE X.K ca W pk (evX cl pk a))) (hb : PE X (.BoolOp .Or (eb :: rest) pos) (tE X.K ca W pk (evX cl pk b))) : PE X (.BoolOp .Or (ea :: eb :: rest) pos) (tE X.K ca W pk (evX cl pk (.or_ a b))) := by
  refine PE.imp (pe_or ha hb) fun σ H Q ⟨τ, Θ, o, q⟩ => ?_
  simp only [evX] at q
  refine tE.use o (Out.bind q) fun t τ' v H' p g => ?_
  split at p
  · exact ⟨false, g.blV, ⟨τ', Θ, g.base, p⟩⟩
  · exact ⟨true, g.blV, p _ _ (.of g.fit (by simpa using g.base.sp.giveB))⟩
  · exact p.elim
theorem and_test {Q : Bool → Hp → Prop} (h : tT K ca W (evB cl (.and_ a b)) σ H Q) : tAnd (tT K ca W (evB cl a)) (tT K ca W (evB cl b)) σ H Q := by
  obtain ⟨τ, Θ, o, q⟩ := h
  simp only [evB, evX] at q
  have q2 : Out (evB cl a τ) (fun k τ' => if k = true then Out (evB cl b τ') (fun b τ' => ∀ H', Ow K ca τ' σ Θ H' → Q b H') (EXC K ca W σ Θ) else ∀ H', Ow K ca τ' σ Θ H' → Q false H') (EXC K ca W σ Θ) := by
    simp only [evB]
    cases e : evX cl true a τ with
    | ok t τ1 =>
      simp only [e, bind_ok] at q ⊢
      split at q
      · simpa only [truF, ret_some, Out, if_true] using q
      · simpa [truF, Out] using q
      · exact q.elim
    | exc cc vv τ1 => simp only [e, bind_exc] at q ⊢; exact q
    | bad => simp only [e, bind_bad] at q; exact q.elim
  refine tT.use o q2 fun k τ' H' p g => ?_
  cases k with
  | true => exact ⟨τ', Θ, g, by simpa using p⟩
  | false => exact (by simpa using p : ∀ H', Ow K ca τ' σ Θ H' → Q false H') H' g
theorem or_test {Q : Bool → Hp → Prop} (h : tT K ca W (evB cl (.or_ a b)) σ H Q) : tOr (tT K ca W (evB cl a)) (tT K ca W (evB cl b)) σ H Q := by
  obtain ⟨τ, Θ, o, q⟩ := h
  simp only [evB, evX] at q
  have q2 : Out (evB cl a τ) (fun k τ' => if k = true then ∀ H', Ow K ca τ' σ Θ H' → Q true H' else Out (evB cl b τ') (fun b τ' => ∀ H', Ow K ca τ' σ Θ H' → Q b H') (EXC K ca W σ Θ)) (EXC K ca W σ Θ) := by
    simp only [evB]
    cases e : evX cl true a τ with
    | ok t τ1 =>
      simp only [e, bind_ok] at q ⊢
      split at q
      · simpa [truF, Out] using q
      · simpa [truF, Out] using q
      · exact q.elim
    | exc cc vv τ1 => simp only [e, bind_exc] at q ⊢; exact q
    | bad => simp only [e, bind_bad] at q; exact q.elim
  refine tT.use o q2 fun k τ' H' p g => ?_
  cases k with
  | false => exact ⟨τ', Θ, g, by simpa using p⟩
  | true => exact (by simpa using p : ∀ H', Ow K ca τ' σ Θ H' → Q true H') H' g
end
end EV
set_option Elab.async false
set_option linter.all false
set_option maxRecDepth 100000
set_option maxHeartbeats 1000000
namespace EV
open PySem PySem.Spec L2
open PyProof.Rows hiding St
section
variable {X : Cx} {ca : Nat → Addr} {W : WX} {pk : Bool} {cl : Call} {pos p1 p2 p3 : Pos} {ea eb ec : Expr} {a b c : E} {n : Nat}
variable {τ τ' : Env} {σ : L2.St} {Θ Θ' : Prs} {H H' : Hp} {t u : T} {v x : V} {K : PySem.W.Frag}
theorem Got.dq (g : Got K ca pk τ σ Θ H t v) : ∃ ps qs, Sp K ca H ps ((t, v) :: qs) := by
  cases pk with
  | true => exact ⟨_, _, g.look⟩
  | false => exact ⟨_, _, g.keep.peek1⟩
/-! ### is None -/
theorem is_non {d : D} {r : Bool} (sp : ∃ ps qs, Sp K ca H ps ((.im d, v) :: qs)) : decide (v = V.non) = decide (d = D.non) := by
  obtain ⟨ps, qs, sp⟩ := sp
  have := sp.dat
  cases d <;> unfold RepD at this
  · simp [this]
  · simp [this]
  · simp [this]
  · simp [this]
  · obtain ⟨a, xs, rfl, _⟩ := this
    simp
theorem ref_non {a : Addr} : decide (V.ref a = V.non) = false := by simp
theorem L_isN {q : Bool} {j : Nat} {p' : Pos} (h : PE X ea (tE X.K ca W true (evX cl true a))) : PE X (.Compare ea [if q then .IsNot else .Is] [.Constant .none j p'] pos) (tE X.K ca W pk (evX cl pk (.isN q a))) := by
  have key : ∀ σ H Q, tE X.K ca W pk (evX cl pk (.isN q a)) σ H Q → tE X.K ca W true (evX cl true a) σ H fun x H1 => Q (.bl (q ^^ decide (x = .non))) H1 := by
    intro σ H Q ⟨τ, Θ, o, z⟩
    simp only [evX] at z
    refine tE.use o (Out.bind z) fun t τ' v H' p g => ?_
    split at p
    · rw [is_non (r := true) g.dq]
      exact p _ _ (.of g.fit g.look.giveB)
    · obtain ⟨a, xs, rfl, _⟩ := g.look.itemsT (ts := _) rfl
      rw [ref_non, Bool.xor_false]
      exact p _ _ (.of g.fit g.look.giveB)
    · obtain ⟨a, xs, rfl, _⟩ := g.look.itemsL
      rw [ref_non, Bool.xor_false]
      exact p _ _ (.of g.fit g.look.giveB)
    · obtain ⟨a, xs, rfl, _⟩ := g.look.itemsD
      rw [ref_non, Bool.xor_false]
      exact p _ _ (.of g.fit g.look.giveB)
    · exact p.elim
  cases q with
  | false =>
    refine PE.imp (pe_cmp (pc_isN h) rfl) fun σ H Q z => ?_
    show tE X.K ca W true (evX cl true a) σ H fun x H1 => Q (.bl (decide (x = .non))) H1
    simpa using key σ H Q z
  | true =>
    refine PE.imp (pe_cmp (pc_notN h) rfl) fun σ H Q z => ?_
    show tE X.K ca W true (evX cl true a) σ H fun x H1 => Q (.bl (!decide (x = .non))) H1
    simpa using key σ H Q z
theorem bl_isN {q : Bool} : blOnly (evX cl true (.isN q a)) := fun τ t τ' e => by
  simp only [evX] at e
  cases h : evX cl true a τ with
  | ok q τ1 =>
    simp only [h, bind_ok] at e
    split at e <;> first | (cases e; exact ⟨_, rfl⟩) | cases e
  | exc c v τ1 => simp only [h, bind_exc] at e; cases e
  | bad => simp only [h, bind_bad] at e; cases e
theorem T_isN {q : Bool} {j : Nat} {p' : Pos} (h : PE X ea (tE X.K ca W true (evX cl true a))) : PT X (.Compare ea [if q then .IsNot else .Is] [.Constant .none j p'] pos) (tT X.K ca W (evB cl (.isN q a))) := by
  have key : ∀ (σ : L2.St) (H : Hp) (Q : Bool → Hp → Prop), tT X.K ca W (evB cl (.isN q a)) σ H Q → tE X.K ca W true (evX cl true a) σ H fun x H1 => Q (q ^^ decide (x = .non)) H1 := by
    intro σ H Q z
    obtain ⟨τ, Θ, o, z⟩ := z
    have z := bl_isN.out z
    simp only [evX] at z
    refine tE.use o (Out.bind z) fun t τ' v H' p g => ?_
    split at p
    · obtain ⟨b, e, p⟩ := p
      cases e
      rw [is_non (r := true) g.dq]
      exact p _ g.base
    · obtain ⟨b, e, p⟩ := p
      cases e
      obtain ⟨a, xs, rfl, _⟩ := g.look.itemsT (ts := _) rfl
      rw [ref_non, Bool.xor_false]
      exact p _ g.base
    · obtain ⟨b, e, p⟩ := p
      cases e
      obtain ⟨a, xs, rfl, _⟩ := g.look.itemsL
      rw [ref_non, Bool.xor_false]
      exact p _ g.base
    · obtain ⟨b, e, p⟩ := p
      cases e
      obtain ⟨a, xs, rfl, _⟩ := g.look.itemsD
      rw [ref_non, Bool.xor_false]
      exact p _ g.base
    · exact p.elim
  cases q with
  | false =>
    refine PT.imp (pt_cmp (pc_isN h) rfl) fun σ H Q z => ?_
    obtain ⟨τ, Θ, o, z⟩ := key σ H Q z
    exact ⟨τ, Θ, o, z.imp (fun t τ' p v H' g => ⟨_, rfl, by simpa using p v H' g⟩) fun _ _ _ w => w⟩
  | true =>
    refine PT.imp (pt_cmp (pc_notN h) rfl) fun σ H Q z => ?_
    obtain ⟨τ, Θ, o, z⟩ := key σ H Q z
    exact ⟨τ, Θ, o, z.imp (fun t τ' p v H' g => ⟨_, rfl, by simpa using p v H' g⟩) fun _ _ _ w => w⟩
/-! ### a if t else b, -a -/
theorem L_ife (hc : PT X ec (tT X.K ca W (evB cl c))) (ha : PE X ea (tE X.K ca W pk (evX cl pk a))) (hb : PE X eb (tE X.K ca W pk (evX cl pk b))) : PE X (.IfExp ec ea eb pos) (tE X.K ca W pk (evX cl pk (.ife c a b))) := by
  refine PE.imp (pe_ifExp hc ha hb) fun σ H Q ⟨τ, Θ, o, z⟩ => ?_
  simp only [evX] at z
  have z2 : Out (evB cl c τ) (fun k τ' => Out (if k = true then evX cl pk a τ' else evX cl pk b τ') (fun t τ' => ∀ v H', Got X.K ca pk τ' σ Θ H' t v → Q v H') (EXC X.K ca W σ Θ)) (EXC X.K ca W σ Θ) := by
    simp only [evB]
    cases e : evX cl true c τ with
    | ok t τ1 =>
      simp only [e, bind_ok] at z ⊢
      split at z
      · rename_i h; rw [h]; exact z
      · rename_i h; rw [h]; exact z
      · exact z.elim
    | exc cc vv τ1 => simp only [e, bind_exc] at z ⊢; exact z
    | bad => simp only [e, bind_bad] at z; exact z.elim
  refine tT.use o z2 fun k τ' H' p g => ?_
  cases k with
  | true => exact ⟨τ', Θ, g, p⟩
  | false => exact ⟨τ', Θ, g, p⟩
theorem intOf_some {i : Int} (h : intOf t = some i) : t = .im (.int i) := by
  unfold intOf at h
  split at h
  · cases h; rfl
  · cases h
theorem L_neg (h : PE X ea (tE X.K ca W true (evX cl true a))) : PE X (.UnaryOp .USub ea pos) (tE X.K ca W pk (evX cl pk (.neg a))) := by
  refine PE.imp (pe_un un_neg h) fun σ H Q ⟨τ, Θ, o, z⟩ => ?_
  simp only [evX] at z
  refine tE.use o (Out.bind z) fun t τ' v H' p g => ?_
  obtain ⟨r, e, p⟩ := Out.ret p
  obtain ⟨i, e1, rfl⟩ := Option.map_eq_some_iff.mp e
  obtain rfl := intOf_some e1
  obtain rfl := g.look.int
  exact ⟨i, rfl, p _ _ (.of g.fit g.look.giveI)⟩
/-! ### a[b] -/
def quietTE : E → Option TE
  | .c d => (cV d).map tC
  | .v i => some (tVar i)
  | .neg (.c (.int i)) => some (tC (.int (-i)))
  | _ => none
theorem Got.pickd (f : Fits τ σ) {pk : Bool} {P : T → Env → Prop} {EX : Nat → T → Env → Prop} (q : Out (pick pk t τ) P EX) (sp : Sp K ca H (prs τ σ ++ Θ) [(t, v)]) : P t τ ∧ Got K ca pk τ σ Θ H t v := by
  unfold pick at q
  split at q
  · rename_i h
    refine ⟨q, f, ?_⟩
    cases pk with
    | true => simpa using sp
    | false => simpa using sp.hold (by simpa using h)
  · exact q.elim
theorem quiet_go {Q : VK} {tb : TE} {va : V} {ta : T} (hq : quiet b = true) (hb : quietTE b = some tb) (f : Fits τ σ) (sp : Sp K ca H (prs τ σ ++ Θ) [(ta, va)])
    {P : T → Env → Prop} {EX : Nat → T → Env → Prop} (z : Out (evX cl true b τ) P EX) (k : ∀ t v, P t τ → Sp K ca H (prs τ σ ++ Θ) [(ta, va), (t, v)] → Q v H) : tb σ H Q := by
  cases b with
  | c d =>
    simp only [quietTE, Option.map_eq_some_iff] at hb
    obtain ⟨v, e, rfl⟩ := hb
    simp only [evX, Out] at z
    exact k _ v z ((sp.addDq (cV_rep e)).swapq)
  | v i =>
    simp only [quietTE, Option.some.injEq] at hb
    subst hb
    simp only [evX] at z
    cases ht : τ.at i with
    | none => rw [ht] at z; exact z.elim
    | some t =>
      rw [ht] at z
      refine L_late f ht fun v hv => ?_
      simp only [Bool.true_or, if_true, Out] at z
      refine k t v z (Sp.swapq ?_)
      exact sp.peek (List.mem_append_left _ ((prs_out ht hv).mem_iff.mpr (by simp)))
  | neg a =>
    cases a with
    | c d =>
      cases d with
      | int i =>
        simp only [quietTE, Option.some.injEq] at hb
        subst hb
        simp only [evX, bind_ok, intOf, Option.map_some, ret_some, Out] at z
        exact k _ _ z ((sp.addDq (d := .int (-i)) (v := .int (-i)) (by unfold RepD; rfl)).swapq)
      | _ => simp [quietTE] at hb
    | _ => simp [quietTE] at hb
  | _ => simp [quietTE] at hb
theorem idx_n (h : isV a = none) : evX cl pk (.idx a b) τ = (evX cl true a τ).bind fun ta τ => if T.clean ta || quiet b then (evX cl true b τ).bind fun tb τ => (ret (idxF ta tb) τ).bind (pick pk) else .bad := by
  cases a <;> first | rfl | (simp only [evX]; done) | (simp [isV] at h)
theorem idx_v {i : Nat} : evX cl pk (.idx (.v i) b) τ = (match τ.at i with
      | some _ => (evX cl true b τ).bind fun tb τ => match τ.at i with
        | some ta => (ret (idxF ta tb) τ).bind (pick pk)
        | none => .bad
      | none => .bad) := by
  simp only [evX] <;> rfl
theorem L_idx {tq : TE} (hu : X.A.units + 150 < cLine) (hs : PlainIx eb) (hav : ∀ i, isV a = some i → PE X ea (tVar i)) (ha : PE X ea (tE X.K ca W true (evX cl true a))) (hb : PE X eb (tE X.K ca W true (evX cl true b)))
    (hq : quiet b = true → quietTE b = some tq ∧ PE X eb tq) : PE X (.Subscript ea eb pos) (tE X.K ca W pk (evX cl pk (.idx a b))) := by
  cases hv : isV a with
  | some i =>
    obtain rfl := isV_some hv
    refine PE.imp (pe_ix (ixF (ca := ca) hu) (hav i rfl) hb hs) fun σ H Q ⟨τ, Θ, o, z⟩ => ?_
    rw [idx_v] at z
    cases ht : τ.at i with
    | none => rw [ht] at z; exact z.elim
    | some t0 =>
      rw [ht] at z
      show tVar i σ H fun x H1 => tE X.K ca W true (evX cl true b) σ H1 fun y H2 => rI2 X.K ca idxF x y H2 Q
      refine L_late o.fit ht fun va hva => tE.use o (Out.bind z) fun tb τ1 vb H1 p g => ?_
      split at p
      · rename_i ta hta
        obtain ⟨r, e, p⟩ := Out.ret (Out.bind p)
        refine ⟨ta, tb, _, [], r, g.base.look hta hva g.look, e, fun v0 s0 => ?_⟩
        obtain ⟨p, g2⟩ := Got.pickd g.fit p s0
        exact p _ _ g2
      · exact p.elim
  | none =>
    by_cases hqb : quiet b = true
    · obtain ⟨h1, h2⟩ := hq hqb
      refine PE.imp (pe_ix (ixF (ca := ca) hu) ha h2 hs) fun σ H Q ⟨τ, Θ, o, z⟩ => ?_
      rw [idx_n hv] at z
      refine tE.use o (Out.bind z) fun ta τ1 va H1 p g => ?_
      rw [hqb, Bool.or_true, if_pos rfl] at p
      refine quiet_go hqb h1 g.fit g.look (Out.bind p) fun tb vb p sp => ?_
      obtain ⟨r, e, p⟩ := Out.ret (Out.bind p)
      refine ⟨ta, tb, _, [], r, sp, e, fun v0 s0 => ?_⟩
      obtain ⟨p, g2⟩ := Got.pickd g.fit p s0
      exact p _ _ g2
    · refine PE.imp (pe_ix (ixF (ca := ca) hu) ha hb hs) fun σ H Q ⟨τ, Θ, o, z⟩ => ?_
      rw [idx_n hv] at z
      refine tE.use o (Out.bind z) fun ta τ1 va H1 p g => ?_
      split at p
      · rename_i hc
        have hc' : T.clean ta = true := by simpa [hqb] using hc
        have ow : Ow X.K ca τ1 σ ((ta, va) :: Θ) H1 := ⟨g.fit, (g.look.hold hc').perm List.perm_middle.symm⟩
        refine tE.use1 (Θ' := [(ta, va)]) ow (Out.bind p) fun tb τ2 vb H2 p2 g2 => ?_
        obtain ⟨r, e, p⟩ := Out.ret (Out.bind p2)
        refine ⟨ta, tb, _, [], r, g2.look.peek (by simp), e, fun v0 s0 => ?_⟩
        obtain ⟨p, g3⟩ := Got.pickd (Θ := [(ta, va)] ++ Θ) g2.fit p s0
        exact p _ _ g3.down
      · exact p.elim
end
end EV
set_option Elab.async false
set_option linter.all false
set_option maxRecDepth 100000
set_option maxHeartbeats 1000000
namespace EV
open PySem PySem.Spec L2
open PyProof.Rows hiding St
section
variable {X : Cx} {ca : Nat → Addr} {W : WX} {pk : Bool} {cl : Call} {pos p1 p2 p3 p4 apos cpos : Pos} {ea eb ec : Expr} {a b c : E} {n : Nat}
variable {τ τ' : Env} {σ : L2.St} {Θ Θ' : Prs} {H H' : Hp} {t u : T} {v x : V} {K : PySem.W.Frag}
/-! ### slices -/
def tO (K : PySem.W.Frag) (ca : Nat → Addr) (W : WX) (m : Env → Res (Option Int)) : TO := fun σ H Q => ∃ τ Θ, Ow K ca τ σ Θ H ∧ Out (m τ) (fun b τ' => ∀ H', Ow K ca τ' σ Θ H' → Q b H') (EXC K ca W σ Θ)
theorem tO.use {m : Env → Res (Option Int)} {Q : Option Int → Hp → Prop} {P : Option Int → Env → Prop} (o : Ow K ca τ σ (Θ' ++ Θ) H) (h : Out (m τ) P (EXC K ca W σ Θ))
    (f : ∀ b τ' H', P b τ' → Ow K ca τ' σ (Θ' ++ Θ) H' → Q b H') : tO K ca W m σ H Q :=
  ⟨τ, Θ' ++ Θ, o, h.imp (fun t τ' p H' g => f t τ' H' p g) fun _ _ _ z => z.up⟩
theorem PO.imp {e : Option Expr} {t t' : TO} (h : PO X e t) (f : ∀ σ H Q, t' σ H Q → t σ H Q) : PO X e t' := ⟨fun pins s σ H Q I q => h.run pins s σ H Q I (f σ H Q q)⟩
theorem O_none : PO X none (tO X.K ca W (evO cl .none)) := PO.imp po_none fun σ H Q ⟨τ, Θ, o, z⟩ => by
  simp only [evO, Out] at z
  exact z H o
theorem O_some (h : PE X ea (tE X.K ca W true (evX cl true a))) : PO X (some ea) (tO X.K ca W (evO cl (.some a))) := by
  refine PO.imp (po_some h) fun σ H Q ⟨τ, Θ, o, z⟩ => ?_
  simp only [evO] at z
  refine tE.use o (Out.bind z) fun t τ' v H' p g => ?_
  obtain ⟨r, e, p⟩ := Out.ret p
  obtain ⟨i, e1, rfl⟩ := Option.map_eq_some_iff.mp e
  obtain rfl := intOf_some e1
  obtain rfl := g.look.int
  exact ⟨i, rfl, p _ g.base⟩
theorem slc_v {i : Nat} {lo hi : Eo} : evX cl pk (.slc (.v i) lo hi) τ = (match τ.at i with
      | some _ => (evO cl lo τ).bind fun l τ => (evO cl hi τ).bind fun h τ => match τ.at i with
        | some ta => ret (slcF ta l h) τ
        | none => .bad
      | none => .bad) := by
  simp only [evX] <;> rfl
theorem slc_n {lo hi : Eo} (h : isV a = none) : evX cl pk (.slc a lo hi) τ = (evX cl false a τ).bind fun ta τ => (evO cl lo τ).bind fun l τ => (evO cl hi τ).bind fun h τ => ret (slcF ta l h) τ := by
  cases a <;> first | rfl | (simp only [evX]; done) | (simp [isV] at h)
theorem L_slc {lo hi : Eo} {elo ehi : Option Expr} (ha : PE X ea (firstTE X.K ca W cl a)) (hl : PO X elo (tO X.K ca W (evO cl lo))) (hh : PO X ehi (tO X.K ca W (evO cl hi))) :
    PE X (.Subscript ea (.Slice elo ehi none p2) pos) (tE X.K ca W pk (evX cl pk (.slc a lo hi))) := by
  refine PE.imp (pe_slice (slF (ca := ca)) ha hl hh) fun σ H Q ⟨τ, Θ, o, z⟩ => ?_
  unfold firstTE
  cases hv : isV a with
  | some i =>
    obtain rfl := isV_some hv
    rw [slc_v] at z
    cases ht : τ.at i with
    | none => rw [ht] at z; exact z.elim
    | some t0 =>
      rw [ht] at z
      show tVar i σ H fun x H1 => tO X.K ca W (evO cl lo) σ H1 fun l H2 => tO X.K ca W (evO cl hi) σ H2 fun u H3 => rS1 X.K ca x l u H3 Q
      refine L_late o.fit ht fun va hva => tO.use (Θ' := []) o (Out.bind z) fun l τ1 H1 p g => tO.use (Θ' := []) g (Out.bind p) fun h τ2 H2 p g2 => ?_
      split at p
      · rename_i ta hta
        obtain ⟨r, e, p⟩ := Out.ret p
        exact ⟨ta, _, [], r, g2.look hta hva g2.sp, e, fun v0 H3 s0 => p _ _ (.of g2.fit s0)⟩
      · exact p.elim
  | none =>
    rw [slc_n hv] at z
    show tE X.K ca W false (evX cl false a) σ H fun x H1 => tO X.K ca W (evO cl lo) σ H1 fun l H2 => tO X.K ca W (evO cl hi) σ H2 fun u H3 => rS1 X.K ca x l u H3 Q
    refine tE.use o (Out.bind z) fun ta τ1 va H1 p g => ?_
    refine tO.use (Θ' := [(ta, va)]) g.ow (Out.bind p) fun l τ2 H2 p g => tO.use (Θ' := [(ta, va)]) g (Out.bind p) fun h τ3 H3 p g2 => ?_
    obtain ⟨r, e, p⟩ := Out.ret p
    exact ⟨ta, _, [], r, g2.sp.peek (by simp), e, fun v0 H3 s0 => p _ _ (Got.mkD (Θ' := [(ta, va)]) g2.fit s0)⟩
theorem L_rev {j : Nat} (ha : PE X ea (tE X.K ca W true (evX cl true a))) : PE X (.Subscript ea (.Slice none none (some (.UnaryOp .USub (.Constant (.int 1) j p1) p2)) p3) pos) (tE X.K ca W pk (evX cl pk (.rev a))) := by
  refine PE.imp (pe_revA ha) fun σ H Q ⟨τ, Θ, o, z⟩ => ?_
  simp only [evX] at z
  refine tE.use o (Out.bind z) fun t τ' v H' p g => ?_
  obtain ⟨r, e, p⟩ := Out.ret p
  exact revF_ok g.look e fun v0 H0 s0 => p _ _ (.of g.fit s0)
/-! ### lists of arguments -/
def tL (K : PySem.W.Frag) (ca : Nat → Addr) (W : WX) (m : Env → Res (List T)) : TA := fun σ H Q => ∃ τ Θ, Ow K ca τ σ Θ H ∧
  Out (m τ) (fun ts τ' => ∀ xs H', Fits τ' σ → ts.length = xs.length → Sp K ca H' (ts.zip xs ++ (prs τ' σ ++ Θ)) [] → Q xs H') (EXC K ca W σ Θ)
def tQ (K : PySem.W.Frag) (ca : Nat → Addr) (W : WX) (m : Env → Res (List T)) : TA := fun σ H Q => ∃ τ Θ, Ow K ca τ σ Θ H ∧
  Out (m τ) (fun ts τ' => ∀ xs H' Θ', Fits τ' σ → ts.length = xs.length → Sp K ca H' (prs τ' σ ++ (Θ' ++ Θ)) (ts.zip xs) → Q xs H') (EXC K ca W σ Θ)
variable {es : List Expr} {r : Es}
theorem A_nilL : PA X [] (tL X.K ca W (evL cl .nil)) := PA.imp pa_nil fun σ H Q ⟨τ, Θ, o, z⟩ => by
  simp only [evL, Out] at z
  exact z [] H o.fit rfl o.sp
theorem perm3 {A B C : Prs} : (A ++ (B ++ C)).Perm (B ++ (A ++ C)) := by
  rw [← List.append_assoc, ← List.append_assoc]
  exact List.perm_append_comm.append_right _
theorem A_oneL (he : PE X ea (tE X.K ca W false (evX cl false a))) (hr : PA X es (tL X.K ca W (evL cl r))) (hs : starEach (ea :: es) X.env = (false, eval ea X.env) :: starEach es X.env) : PA X (ea :: es) (tL X.K ca W (evL cl (.one a r))) := by
  refine PA.imp (pa_cons he hr hs) fun σ H Q ⟨τ, Θ, o, z⟩ => ?_
  simp only [evL] at z
  refine tE.use o (Out.bind z) fun t τ1 v H1 p g => ?_
  refine ⟨τ1, (t, v) :: Θ, g.ow, (Out.bind p).imp (fun ts τ2 p2 xs H2 f n sp => ?_) fun _ _ _ w => EXC.up (Θ' := [(t, v)]) w⟩
  refine p2 (v :: xs) H2 f (by simp [n]) ?_
  rw [List.zip_cons_cons]
  refine sp.perm ?_
  have := List.perm_middle (a := (t, v)) (l₁ := ts.zip xs ++ prs τ2 σ) (l₂ := Θ)
  simpa [List.append_assoc] using this
theorem Sp.holdS {ts : List T} {ps qs : Prs} {x : V} (sp : Sp K ca H ((t, x) :: ps) qs) (e : seqLT t = some ts) (c : T.cleans ts = true) : ∃ p xs, x = .ref p ∧ (LsA K H p xs ∨ SqT K H p xs) ∧ ts.length = xs.length ∧ Sp K ca H (ts.zip xs ++ ps) qs := by
  obtain ⟨p, xs, h1, h2, h3, h4⟩ := seqLT_sq sp.peek1 e
  refine ⟨p, xs, h1, h2, h3, ?_⟩
  have := h4.holds (cleans_zip c)
  exact (this.perm List.perm_middle).drop1
theorem A_starL {r : Es} (he : PE X ea (tE X.K ca W false (evX cl false a))) (hr : PA X es (tL X.K ca W (evL cl r))) : PA X (.Starred ea p1 :: es) (tL X.K ca W (evL cl (.star a r))) := by
  refine PA.imp (StX.pa_star he hr) fun σ H Q ⟨τ, Θ, o, z⟩ => ?_
  simp only [evL] at z
  refine tE.use o (Out.bind z) fun t τ1 v H1 p g => ?_
  split at p
  · rename_i us e
    split at p
    · rename_i c
      obtain ⟨q, ys, rfl, hq, n1, sp⟩ := g.keep.holdS e c
      refine ⟨q, ys, rfl, (hq.imp vlst id).symm, ?_⟩
      have ow : Ow X.K ca τ1 σ (us.zip ys ++ Θ) H1 := ⟨g.fit, sp.perm perm3⟩
      refine ⟨τ1, us.zip ys ++ Θ, ow, (Out.bind p).imp (fun ts τ2 p2 xs H2 f n sp => ?_) fun _ _ _ w => EXC.up w⟩
      refine p2 (ys ++ xs) H2 f (by simp [n, n1]) ?_
      rw [zip_app n1]
      refine sp.perm ?_
      have h1 : (ts.zip xs ++ (prs τ2 σ ++ (us.zip ys ++ Θ))).Perm (us.zip ys ++ ((ts.zip xs ++ prs τ2 σ) ++ Θ)) := by
        rw [← List.append_assoc]
        exact perm3
      simpa [List.append_assoc] using h1
    · exact p.elim
  · exact p.elim
theorem A_nilQ : PA X [] (tQ X.K ca W (evQ cl .nil)) := PA.imp pa_nil fun σ H Q ⟨τ, Θ, o, z⟩ => by
  simp only [evQ, Out] at z
  exact z [] H [] o.fit rfl o.sp
theorem A_lastQ (he : PE X ea (tE X.K ca W true (evX cl true a))) (hs : starEach [ea] X.env = (false, eval ea X.env) :: starEach [] X.env) : PA X [ea] (tQ X.K ca W (evQ cl (.one a .nil))) := by
  refine PA.imp (pa_cons he pa_nil hs) fun σ H Q ⟨τ, Θ, o, z⟩ => ?_
  simp only [evQ] at z
  refine tE.use o (Out.bind z) fun t τ1 v H1 p g => ?_
  exact p [v] H1 [] g.fit rfl g.look
def nonNil : Es → Bool
  | .nil => false
  | _ => true
theorem evQ_v {i : Nat} (h : nonNil r = true) : evQ cl (.one (.v i) r) τ = (match τ.at i with
      | some _ => (evQ cl r τ).bind fun ts τ => ret ((τ.at i).map fun t => t :: ts) τ
      | none => .bad) := by
  cases r <;> first | (simp [nonNil] at h; done) | (simp only [evQ] <;> rfl)
theorem evQ_n (h : nonNil r = true) (hv : isV a = none) : evQ cl (.one a r) τ = (evX cl false a τ).bind fun t τ => (evQ cl r τ).bind fun ts τ => .ok (t :: ts) τ := by
  cases r <;> first | (simp [nonNil] at h; done) | (cases a <;> first | rfl | (simp only [evQ]; done) | (simp [isV] at hv))
theorem A_oneQ (hn : nonNil r = true) (he : PE X ea (firstTE X.K ca W cl a)) (hr : PA X es (tQ X.K ca W (evQ cl r))) (hs : starEach (ea :: es) X.env = (false, eval ea X.env) :: starEach es X.env) : PA X (ea :: es) (tQ X.K ca W (evQ cl (.one a r))) := by
  refine PA.imp (pa_cons he hr hs) fun σ H Q ⟨τ, Θ, o, z⟩ => ?_
  unfold firstTE
  cases hv : isV a with
  | some i =>
    obtain rfl := isV_some hv
    rw [evQ_v hn] at z
    cases ht : τ.at i with
    | none => rw [ht] at z; exact z.elim
    | some t0 =>
      rw [ht] at z
      show tVar i σ H fun x H1 => tQ X.K ca W (evQ cl r) σ H1 fun xs H2 => Q (x :: xs) H2
      refine L_late o.fit ht fun va hva => ⟨τ, Θ, o, (Out.bind z).imp (fun ts τ2 p xs H2 Θ' f n sp => ?_) fun _ _ _ w => w⟩
      obtain ⟨us, e, p⟩ := Out.ret p
      obtain ⟨ta, e2, rfl⟩ := Option.map_eq_some_iff.mp e
      refine p (va :: xs) H2 Θ' f (by simp [n]) ?_
      rw [List.zip_cons_cons]
      exact sp.peek (List.mem_append_left _ ((prs_out e2 hva).mem_iff.mpr (by simp)))
  | none =>
    rw [evQ_n hn hv] at z
    show tE X.K ca W false (evX cl false a) σ H fun x H1 => tQ X.K ca W (evQ cl r) σ H1 fun xs H2 => Q (x :: xs) H2
    refine tE.use o (Out.bind z) fun ta τ1 va H1 p g => ?_
    refine ⟨τ1, (ta, va) :: Θ, g.ow, (Out.bind p).imp (fun ts τ2 p2 xs H2 Θ' f n sp => ?_) fun _ _ _ w => EXC.up (Θ' := [(ta, va)]) w⟩
    refine p2 (va :: xs) H2 (Θ' ++ [(ta, va)]) f (by simp [n]) ?_
    rw [List.zip_cons_cons]
    have sp' : Sp X.K ca H2 (prs τ2 σ ++ ((Θ' ++ [(ta, va)]) ++ Θ)) (ts.zip xs) := by simpa using sp
    exact sp'.peek (by simp)
/-! ### displays -/
theorem L_tup {k1 : Nat} (h : PA X es (tL X.K ca W (evL cl r))) : PE X (.Tuple es k1 pos) (tE X.K ca W pk (evX cl pk (.tup r))) := by
  refine PE.imp (pe_tup h) fun σ H Q ⟨τ, Θ, o, z⟩ => ?_
  simp only [evX] at z
  refine ⟨τ, Θ, o, (Out.bind z).imp (fun ts τ' p xs H' f n sp => ?_) fun _ _ _ w => w⟩
  split at p
  · rename_i hl
    exact ⟨by rw [← n]; exact hl, fun q hq => p _ _ (.of f (sp.newT n hq))⟩
  · exact p.elim
theorem L_lst (h : PA X es (tL X.K ca W (evL cl r))) : PE X (.List es pos) (tE X.K ca W pk (evX cl pk (.lst r))) := by
  refine PE.imp (pe_lst h) fun σ H Q ⟨τ, Θ, o, z⟩ => ?_
  simp only [evX] at z
  refine ⟨τ, Θ, o, (Out.bind z).imp (fun ts τ' p xs H' f n sp => ?_) fun _ _ _ w => w⟩
  split at p
  · rename_i hl
    exact ⟨by rw [← n]; exact hl, fun q hq => p _ _ (.of f (sp.newL n hq))⟩
  · exact p.elim
theorem Sp.newD {ps qs : Prs} {q : Addr} (h : Sp K ca H ps qs) (hq : H q = none) : Sp K ca (upd H q (.dK [])) ((.dct true false [] [], .ref q) :: ps) qs :=
  Sp.closeD (xs := []) (h.newCell hq (o := .dK []) rfl) rfl ⟨[], rfl, rfl, upd_same, List.nodup_nil⟩
theorem Sp.newDT {ps qs : Prs} {q : Addr} (h : Sp K ca H ps qs) (hq : H q = none) : Sp K ca (upd H q (.dT [])) ((.dct true true [] [], .ref q) :: ps) qs :=
  Sp.closeD (xs := []) (h.newCell hq (o := .dT []) rfl) rfl ⟨[], rfl, rfl, upd_same, List.nodup_nil⟩
theorem L_dic {k : Bool} : PE X (.Dict [] [] pos) (tE X.K ca W pk (evX cl pk (.dic k))) := by
  cases k with
  | false =>
    refine PE.imp pe_dnewK fun σ H Q ⟨τ, Θ, o, z⟩ => ?_
    simp only [evX, Out] at z
    exact fun q hq => z _ _ (.of o.fit (o.sp.newD hq))
  | true =>
    refine PE.imp pe_dnewT fun σ H Q ⟨τ, Θ, o, z⟩ => ?_
    simp only [evX, Out] at z
    exact fun q hq => z _ _ (.of o.fit (o.sp.newDT hq))
/-! ### builtins -/
theorem bi_imp {b : Bi} {Q : VK} (h : tE K ca W pk (evX cl pk (.bi b r)) σ H Q) : tCB (rPF K ca (biF b)) (tQ K ca W (evQ cl r)) σ H Q := by
  obtain ⟨τ, Θ, o, z⟩ := h
  simp only [evX] at z
  refine ⟨τ, Θ, o, (Out.bind z).imp (fun ts τ' p xs H' Θ' f n sp => ?_) fun _ _ _ w => w⟩
  obtain ⟨t, e, p⟩ := Out.ret p
  exact ⟨ts, _, [], t, n, by simpa using sp, e, fun v H'' s0 => p _ _ (Got.mkD (Θ' := Θ') f s0)⟩
theorem L_isi {ty : Ty} {nm nt : Str} (hg : Gl X nm) (hm : X.mg nm = none) (hb : bootBuiltins nm = some (.builtin "isinstance")) (h1 : nm ≠ "__name__") (h2 : (nm == ("__debug__" : Str)) = false)
    (ha : PE X ea (tE X.K ca W true (evX cl true a))) (ht : PE X (.Name nt p2) (tC (.ty (tyS ty)))) (hs : starEach [ea, .Name nt p2] X.env = (false, eval ea X.env) :: starEach [.Name nt p2] X.env) (hpl : (backTo pos (starEach [.Name nt p2] X.env)).any (·.1) = false) :
    PE X (.Call (.Name nm p1) [ea, .Name nt p2] [] pos) (tE X.K ca W pk (evX cl pk (.isi a ty))) := by
  refine PE.imp (pe_callB (isiC (ca := ca) ty) hg hm hb (pa_cons ha (pa_cons ht pa_nil) hs) h1 h2 hs hpl) fun σ H Q ⟨τ, Θ, o, z⟩ => ?_
  simp only [evX] at z
  refine tE.use o (Out.bind z) fun t τ' v H' p g => ?_
  obtain ⟨r, e, p⟩ := Out.ret p
  obtain ⟨b, e1, rfl⟩ := Option.map_eq_some_iff.mp e
  exact ⟨v, t, _, [], b, rfl, g.look, e1, p _ _ (.of g.fit g.look.giveB)⟩
/-! ### list(range(..)) -/
theorem rng_vals {lo : Int} {n : Nat} : ∀ {ps : Prs}, Sp K ca H ps [] → Sp K ca H ((rng lo n).zip ((List.range n).map fun i => V.int (lo + (i : Nat))) ++ ps) [] := by
  intro ps sp
  unfold rng
  have : ∀ l : List Nat, Sp K ca H ((l.map fun i => T.im (.int (lo + (i : Nat)))).zip (l.map fun i => V.int (lo + (i : Nat))) ++ ps) [] := by
    intro l
    induction l with
    | nil => exact sp
    | cons i l ih => exact ih.addD (by unfold RepD; rfl)
  exact this _
theorem rgo {j : Int} (h : inR j = true) : -(2 ^ 62) ≤ j ∧ j < 2 ^ 62 := by
  unfold inR at h
  simpa using h
theorem lrg_fin {i j : Int} {Q : VK} (f : Fits τ σ) (sp : Sp K ca H (prs τ σ ++ (Θ' ++ Θ)) []) (hi : inR i = true) (hj : inR j = true)
    (z : Out (if (rng i (j - i).toNat).length ≤ SL then Res.ok (T.lst true (rng i (j - i).toNat)) τ else .bad) (fun t τ' => ∀ v H', Got K ca pk τ' σ Θ H' t v → Q v H') (EXC K ca W σ Θ)) :
    RgOk i j ∧ ∀ q, H q = none → Q (.ref q) (upd H q (.lst (rgV i j))) := by
  split at z
  · rename_i hl
    have hl' : (j - i).toNat ≤ 16777216 := by simpa [rng] using hl
    refine ⟨⟨(rgo hi).1, (rgo hi).2, (rgo hj).1, (rgo hj).2, by omega⟩, fun q hq => z _ _ (Got.mkD (Θ' := Θ') f ?_)⟩
    exact (rng_vals sp).newL (by simp [rng]) hq
  · exact z.elim
theorem L_lrg1 (hc : X.calm = true) (hg : Gl X "list") (hm : X.mg "list" = none) (hgr : Gl X "range") (hmr : X.mg "range" = none) (ha : PE X ea (tE X.K ca W true (evX cl true a)))
    (na : starEach [ea] X.env = (false, eval ea X.env) :: starEach [] X.env) : PE X (.Call (.Name "list" p1) [.Call (.Name "range" p2) [ea] [] p3] [] pos) (tE X.K ca W pk (evX cl pk (.lrg (.rg1 a)))) := by
  refine PE.imp (pe_listRg hc hg hm (prg_1 hgr hmr ha na) rfl) fun σ H Q ⟨τ, Θ, o, z⟩ => ?_
  simp only [evX, evI] at z
  refine tE.use o (Out.bind (Out.bind z)) fun t τ' v H' p g => ?_
  split at p
  · rename_i j ej
    split at p
    · rename_i hr
      obtain rfl := intOf_some ej
      obtain rfl := g.look.int
      refine ⟨j, rfl, ?_⟩
      have h0 : (j - 0).toNat = j.toNat := by rw [Int.sub_zero]
      exact lrg_fin (i := 0) (Θ' := []) g.fit g.base.sp (by decide) hr (by rw [h0]; exact p)
    · exact p.elim
  · exact p.elim
end
end EV
set_option Elab.async false
set_option linter.all false
set_option maxRecDepth 100000
set_option maxHeartbeats 1000000
namespace EV
open PySem PySem.Spec L2
open PyProof.Rows hiding St
section
variable {X : Cx} {ca : Nat → Addr} {W : WX} {pk : Bool} {cl : Call} {pos p p1 p2 p3 p4 apos cpos : Pos} {ea eb ec : Expr} {a b c : E} {n : Nat}
variable {τ τ' : Env} {σ : L2.St} {Θ Θ' : Prs} {H H' : Hp} {t u : T} {v x : V} {K : PySem.W.Frag} {es : List Expr} {r : Es}
/-! ### x.m(..) that changes x -/
theorem Fits.setS (f : Fits τ σ) {i : Nat} {o : Option T} (h : σ[i]? = some (some v)) : Fits (τ.set i o) σ :=
  ⟨by simpa using f.len, fun j u e => by
    rw [at_set] at e
    split at e
    · rename_i q
      exact ⟨v, q.1 ▸ h⟩
    · exact f.has j u e⟩
theorem mu_imp {m : Mu} {i : Nat} {Q : VK} (hm : m ≠ .update) (h : tE K ca W pk (evX cl pk (.mu m i r)) σ H Q) : tBM K "list" (rMuF K ca m) (tVar i) (tL K ca W (evL cl r)) σ H Q := by
  obtain ⟨τ, Θ, o, z⟩ := h
  simp only [evX] at z
  split at z
  · rename_i hty
    obtain ⟨ob, ts0, h0⟩ : ∃ ob ts0, τ.at i = some (.lst ob ts0) := by
      unfold muTy at hty
      split at hty <;> first | exact (hm rfl).elim | (rename_i h; exact ⟨_, _, h⟩) | (simp at hty)
    refine L_late o.fit h0 fun va hva => ⟨?_, τ, Θ, o, (Out.bind z).imp (fun ts τ' p xs H' f n sp => ?_) fun _ _ _ w => w⟩
    · obtain ⟨a, xs, rfl, ha, _⟩ := (o.look h0 hva o.sp).itemsL
      exact .inl ⟨rfl, xs, vlst ha⟩
    · split at p
      · rename_i t ht
        split at p
        · rename_i t' r' hmu
          have hi := at_lt ht
          refine ⟨t, ts, prs (τ'.set i none) σ ++ Θ, t', r', ?_, n, hmu, fun v0 H0 s0 => p _ _ ?_⟩
          · refine sp.perm ?_
            have p1 := (prs_out ht hva).append_right Θ
            exact (p1.append_left (ts.zip xs)).trans List.perm_middle
          · refine .of (f.setS hva) ?_
            have p2 := (prs_put (t := t') hva hi).append_right Θ
            exact (s0.perm (.swap _ _ _)).perm ((p2.symm).cons _)
        · exact p.elim
      · exact p.elim
  · exact z.elim
/-! ### calls of defs -/
def pz : List (Option T) → List V → Prs
  | some t :: ps, v :: vs => (t, v) :: pz ps vs
  | none :: ps, _ :: vs => pz ps vs
  | _, _ => []
/-- what a def promises -/
def spEV (K : PySem.W.Frag) (ca : Nat → Addr) (cl : List T → FRes) (n : Nat) : L2.Sp := fun vs H Q EX => vs.length = n ∧ ∃ ts Θ, ts.length = vs.length ∧ Sp K ca H (ts.zip vs ++ Θ) [] ∧ match cl ts with
  | .ok t ps => ∀ v H', Sp K ca H' ((t, v) :: (pz ps vs ++ Θ)) [] → Q v H'
  | .exc c a ps => ∀ d x H', Sp K ca H' ((a, x) :: (pz ps vs ++ Θ)) [] → H' d = some (.xd [("value", x)]) → EX (.ref (ca c)) (some d) H'
  | .bad => False
def held : List Arg → List V → Prs
  | .val t :: as, v :: vs => (t, v) :: held as vs
  | .ref _ :: as, _ :: vs => held as vs
  | _, _ => []
def refsAt (σ : L2.St) : List Arg → List V → Prop
  | .ref i :: as, v :: vs => σ[i]? = some (some v) ∧ refsAt σ as vs
  | .val _ :: as, _ :: vs => refsAt σ as vs
  | _, _ => True
def clr : List Nat → Env → Env
  | [], τ => τ
  | i :: is, τ => clr is (τ.set i none)
theorem clr_at {is : List Nat} : ∀ {τ : Env} {j : Nat}, j ∉ is → (clr is τ).at j = τ.at j := by
  induction is with
  | nil => intro τ j _; rfl
  | cons i is ih =>
    intro τ j h
    show (clr is (τ.set i none)).at j = _
    rw [ih (fun z => h (by simp [z])), at_set, if_neg (fun z => h (by simp [z.1]))]
theorem clr_len {is : List Nat} : ∀ {τ : Env}, (clr is τ).length = τ.length := by
  induction is with
  | nil => intro τ; rfl
  | cons i is ih => intro τ; show (clr is (τ.set i none)).length = _; rw [ih]; simp
theorem clr_set {is : List Nat} : ∀ {τ : Env} {j : Nat} {o : Option T}, j ∉ is → clr is (τ.set j o) = (clr is τ).set j o := by
  induction is with
  | nil => intro τ j o _; rfl
  | cons i is ih =>
    intro τ j o h
    show clr is ((τ.set j o).set i none) = (clr is (τ.set i none)).set j o
    have hne : j ≠ i := fun z => h (by simp [z])
    rw [List.set_comm _ _ hne, ih fun z => h (by simp [z])]
def tA (K : PySem.W.Frag) (ca : Nat → Addr) (W : WX) (m : Env → Res (List Arg)) : TA := fun σ H Q => ∃ τ Θ, Ow K ca τ σ Θ H ∧
  Out (m τ) (fun as τ' => ∀ xs H', Fits τ' σ → as.length = xs.length → refsAt σ as xs → Sp K ca H' (held as xs ++ (prs τ' σ ++ Θ)) [] → Q xs H') (EXC K ca W σ Θ)
theorem A_nilA : PA X [] (tA X.K ca W (evA cl .nil)) := PA.imp pa_nil fun σ H Q ⟨τ, Θ, o, z⟩ => by
  simp only [evA, Out] at z
  exact z [] H o.fit rfl trivial o.sp
theorem evA_v {i : Nat} : evA cl (.one (.v i) r) τ = (match τ.at i with
      | some t => if T.clean t then (evA cl r τ).bind fun as τ => .ok (.val t :: as) τ else (evA cl r τ).bind fun as τ => .ok (.ref i :: as) τ
      | none => .bad) := by
  simp only [evA] <;> rfl
theorem evA_n (hv : isV a = none) : evA cl (.one a r) τ = (evX cl false a τ).bind fun t τ => (evA cl r τ).bind fun as τ => .ok (.val t :: as) τ := by
  cases a <;> first | rfl | (simp only [evA]; done) | (simp [isV] at hv)
theorem mid_perm {A B C : Prs} {q : T × V} : (A ++ (B ++ q :: C)).Perm (q :: (A ++ (B ++ C))) := by
  have := List.perm_middle (a := q) (l₁ := A ++ B) (l₂ := C)
  simpa [List.append_assoc] using this
theorem A_oneA (he : PE X ea (firstTE X.K ca W cl a)) (hr : PA X es (tA X.K ca W (evA cl r))) (hs : starEach (ea :: es) X.env = (false, eval ea X.env) :: starEach es X.env) : PA X (ea :: es) (tA X.K ca W (evA cl (.one a r))) := by
  refine PA.imp (pa_cons he hr hs) fun σ H Q ⟨τ, Θ, o, z⟩ => ?_
  unfold firstTE
  cases hv : isV a with
  | some i =>
    obtain rfl := isV_some hv
    rw [evA_v] at z
    cases ht : τ.at i with
    | none => rw [ht] at z; exact z.elim
    | some t =>
      rw [ht] at z
      show tVar i σ H fun x H1 => tA X.K ca W (evA cl r) σ H1 fun xs H2 => Q (x :: xs) H2
      refine L_late o.fit ht fun va hva => ?_
      simp only at z
      split at z
      · rename_i hc
        have ow : Ow X.K ca τ σ ((t, va) :: Θ) H := ⟨o.fit, ((o.look ht hva o.sp).hold hc).perm List.perm_middle.symm⟩
        refine ⟨τ, (t, va) :: Θ, ow, (Out.bind z).imp (fun as τ2 p xs H2 f n rf sp => ?_) fun _ _ _ w => EXC.up (Θ' := [(t, va)]) w⟩
        exact p (va :: xs) H2 f (by simp [n]) rf (sp.perm mid_perm)
      · refine ⟨τ, Θ, o, (Out.bind z).imp (fun as τ2 p xs H2 f n rf sp => ?_) fun _ _ _ w => w⟩
        exact p (va :: xs) H2 f (by simp [n]) ⟨hva, rf⟩ sp
  | none =>
    rw [evA_n hv] at z
    show tE X.K ca W false (evX cl false a) σ H fun x H1 => tA X.K ca W (evA cl r) σ H1 fun xs H2 => Q (x :: xs) H2
    refine tE.use o (Out.bind z) fun t τ1 va H1 p g => ?_
    refine ⟨τ1, (t, va) :: Θ, g.ow, (Out.bind p).imp (fun as τ2 p xs H2 f n rf sp => ?_) fun _ _ _ w => EXC.up (Θ' := [(t, va)]) w⟩
    exact p (va :: xs) H2 f (by simp [n]) rf (sp.perm mid_perm)
theorem argTs_len : ∀ {as : List Arg} {ts : List T}, argTs τ as = some ts → ts.length = as.length
  | [], ts, h => by cases h; rfl
  | a :: as, ts, h => by
    simp only [argTs] at h
    split at h
    · rename_i t ts' h1 h2
      cases h
      simp [argTs_len h2]
    · cases h
theorem argTs_set {i : Nat} {o : Option T} : ∀ {as : List Arg}, i ∉ refs as → argTs (τ.set i o) as = argTs τ as
  | [], _ => rfl
  | .val t :: as, h => by
    simp only [argTs, argT]
    rw [argTs_set (as := as) h]
  | .ref j :: as, h => by
    simp only [argTs, argT]
    rw [argTs_set (as := as) (fun z => h (by simp [refs, z])), at_set, if_neg (fun z => h (by simp [refs, z.1]))]
theorem pull {qs : Prs} : ∀ {as : List Arg} {ts : List T} {xs : List V} {τ : Env} {R : Prs}, (refs as).Nodup → argTs τ as = some ts → as.length = xs.length → refsAt σ as xs → Sp K ca H (R ++ (held as xs ++ (prs τ σ ++ Θ))) qs →
    Sp K ca H (R ++ (ts.zip xs ++ (prs (clr (refs as) τ) σ ++ Θ))) qs
  | [], ts, xs, τ, R, _, h, _, _, sp => by cases h; exact sp
  | .val t :: as, ts, [], τ, R, nd, h, n, rf, sp => by simp at n
  | .ref i :: as, ts, [], τ, R, nd, h, n, rf, sp => by simp at n
  | .val t :: as, ts, x :: xs, τ, R, nd, h, n, rf, sp => by
    simp only [argTs, argT] at h
    split at h
    · rename_i t' ts' h1 h2
      cases h
      cases h1
      have := pull (as := as) (R := R ++ [(t, x)]) nd h2 (by simpa using n) rf (by simpa [held] using sp)
      simpa [refs] using this
    · cases h
  | .ref i :: as, ts, x :: xs, τ, R, nd, h, n, rf, sp => by
    simp only [argTs, argT] at h
    split at h
    · rename_i t' ts' h1 h2
      cases h
      obtain ⟨hn, nd⟩ := List.nodup_cons.mp (show (i :: refs as).Nodup from nd)
      rw [← argTs_set (i := i) (o := none) hn] at h2
      have p1 := (prs_out h1 rf.1).append_right Θ
      have sp1 : Sp K ca H ((R ++ [(t', x)]) ++ (held as xs ++ (prs (τ.set i none) σ ++ Θ))) qs := by
        refine sp.perm ?_
        have q1 : (R ++ (held as xs ++ (prs τ σ ++ Θ))).Perm (R ++ (held as xs ++ ((t', x) :: prs (τ.set i none) σ ++ Θ))) := (p1.append_left _).append_left R
        refine q1.trans ?_
        have q2 := List.perm_middle (a := (t', x)) (l₁ := held as xs) (l₂ := prs (τ.set i none) σ ++ Θ)
        simpa [List.append_assoc] using q2.append_left R
      have := pull (as := as) nd h2 (by simpa using n) rf.2 sp1
      simpa [refs, clr] using this
    · cases h
theorem putBack_ok : ∀ {as : List Arg} {ps : List (Option T)} {xs : List V} {τ : Env} {R : Prs}, (refs as).Nodup → as.length = xs.length → ps.length = xs.length → refsAt σ as xs → Fits τ σ → (∀ i ∈ refs as, i < τ.length) →
    Sp K ca H (R ++ (pz ps xs ++ (prs (clr (refs as) τ) σ ++ Θ))) [] → Fits (putBack as ps τ) σ ∧ Sp K ca H (R ++ (prs (putBack as ps τ) σ ++ Θ)) []
  | [], ps, xs, τ, R, _, n1, n2, _, f, _, sp => by
    have e1 : xs = [] := by cases xs <;> simp at n1 ⊢
    subst e1
    have e2 : ps = [] := by cases ps <;> simp at n2 ⊢
    subst e2
    exact ⟨f, sp⟩
  | _ :: _, _, [], _, _, _, n1, _, _, _, _, _ => by simp at n1
  | _ :: _, [], _ :: _, _, _, _, _, n2, _, _, _, _ => by simp at n2
  | .val t :: as, q :: ps, x :: xs, τ, R, nd, n1, n2, rf, f, hl, sp => by
    have sp' : Sp K ca H (R ++ (pz ps xs ++ (prs (clr (refs as) τ) σ ++ Θ))) [] := by
      cases q with
      | none => exact sp
      | some t =>
        refine Sp.drop1 (p := (t, x)) (sp.perm ?_)
        exact List.perm_middle
    exact putBack_ok (as := as) nd (by simpa using n1) (by simpa using n2) rf f hl sp'
  | .ref i :: as, q :: ps, x :: xs, τ, R, nd, n1, n2, rf, f, hl, sp => by
    obtain ⟨hn, nd⟩ := List.nodup_cons.mp (show (i :: refs as).Nodup from nd)
    have hi : i < τ.length := hl i (by simp [refs])
    have f' : Fits (τ.set i q) σ := f.setS rf.1
    have sp' : Sp K ca H (R ++ (pz ps xs ++ (prs (clr (refs as) (τ.set i q)) σ ++ Θ))) [] := by
      rw [clr_set hn]
      have e0 : clr (refs (.ref i :: as)) τ = (clr (refs as) τ).set i none := clr_set hn
      rw [e0] at sp
      cases q with
      | none => exact sp
      | some t =>
        have p1 := (prs_put (t := t) (τ := clr (refs as) τ) rf.1 (by rw [clr_len]; exact hi)).append_right Θ
        refine sp.perm ?_
        have q1 : (pz ps xs ++ (prs ((clr (refs as) τ).set i (some t)) σ ++ Θ)).Perm (pz (some t :: ps) (x :: xs) ++ (prs ((clr (refs as) τ).set i none) σ ++ Θ)) := by
          refine (p1.append_left _).trans ?_
          exact List.perm_middle
        exact (q1.append_left R).symm
    exact putBack_ok (as := as) nd (by simpa using n1) (by simpa using n2) rf.2 f' (fun j hj => by simpa using hl j (by simp [refs, hj])) sp'
theorem argTs_lt : ∀ {as : List Arg} {ts : List T}, argTs τ as = some ts → ∀ i ∈ refs as, i < τ.length
  | [], _, _ => fun i hi => by simp [refs] at hi
  | .val t :: as, ts, h => by
    simp only [argTs] at h
    split at h
    · rename_i h1 h2
      exact argTs_lt (as := as) h2
    · cases h
  | .ref j :: as, ts, h => fun i hi => by
    simp only [argTs, argT] at h
    split at h
    · rename_i h1 h2
      rcases List.mem_cons.mp (show i ∈ j :: refs as from hi) with rfl | hi
      · exact at_lt h1
      · exact argTs_lt (as := as) h2 i hi
    · cases h
/-- a call -/
theorem call_imp {f n : Nat} {Q : VK} (hn : ∀ τ as τ', evA cl r τ = .ok as τ' → as.length = n) (h : tE K ca W pk (evX cl pk (.call f r)) σ H Q) : tCallS (spEV K ca (cl f) n) (WE W) (tA K ca W (evA cl r)) σ H Q := by
  obtain ⟨τ, Θ, o, z⟩ := h
  simp only [evX] at z
  have z1 : Out (evA cl r τ) (fun as τ1 => as.length = n ∧ Out (goCall (cl f) as τ1) (fun t τ' => ∀ v H', Got K ca pk τ' σ Θ H' t v → Q v H') (EXC K ca W σ Θ)) (EXC K ca W σ Θ) := by
    have z0 := Out.bind z
    cases e : evA cl r τ with
    | ok as τ1 => rw [e] at z0; exact ⟨hn _ _ _ e, z0⟩
    | exc c v τ1 => rw [e] at z0; exact z0
    | bad => rw [e] at z0; exact z0
  refine ⟨τ, Θ, o, z1.imp (fun as τ1 ⟨hl, p⟩ xs H1 ft n1 rf sp => ?_) fun _ _ _ w => w⟩
  unfold goCall at p
  split at p
  · rename_i nd
    split at p
    · rename_i ts hts
      have n2 := argTs_len hts
      have s1 := pull (R := []) nd hts n1 rf sp
      refine ⟨by rw [← n1, hl], ts, prs (clr (refs as) τ1) σ ++ Θ, by rw [n2, n1], by simpa using s1, ?_⟩
      cases e : cl f ts with
      | ok t ps =>
        rw [e] at p
        simp only at p ⊢
        split at p
        · rename_i hps
          intro v0 H0 s0
          obtain ⟨f2, s2⟩ := putBack_ok (R := [(t, v0)]) nd n1 (by rw [hps, n1]) rf ft (argTs_lt hts) s0
          exact p _ _ (.of f2 s2)
        · exact p.elim
      | exc c a ps =>
        rw [e] at p
        simp only at p ⊢
        split at p
        · rename_i hps
          intro d x0 H0 s0 hd
          obtain ⟨f2, s2⟩ := putBack_ok (R := [(a, x0)]) nd n1 (by rw [hps, n1]) rf ft (argTs_lt hts) s0
          exact p d x0 H0 (.of f2 s2) hd
        · exact p.elim
      | bad => rw [e] at p; exact p.elim
    · exact p.elim
  · exact p.elim
/-- what a call needs -/
structure FnE (X : Cx) (ca : Nat → Addr) (cl : List T → FRes) (n : Nat) (nm : Str) : Prop where
  ex : ∃ (k : Nat) (f : Addr) (fd : FuncData) (ps : List Str), FnG X.prog X.w X.K X.mg X.base k f fd ps (spEV X.K ca cl n) ∧ X.A.guards = some [] ∧ Room k X.A ∧ X.mg nm = some (.ref f) ∧ PySem.W.keepIn X.K (.ref f) = true ∧ Binds X.K fd ps []
theorem L_call {f n : Nat} {nm : Str} {e : Expr} (tk : Takes X W) (F : FnE X ca (cl f) n nm) (hg : Gl X nm) (hdb : (nm == ("__debug__" : Str)) = false) (hn : ∀ τ as τ', evA cl r τ = .ok as τ' → as.length = n)
    (ha : PA X (e :: es) (tA X.K ca W (evA cl r))) (h1 : starEach (e :: es) X.env = (false, eval e X.env) :: starEach es X.env) (h2 : (backTo pos (starEach es X.env)).any (·.1) = false) :
    PE X (.Call (.Name nm p) (e :: es) [] pos) (tE X.K ca W pk (evX cl pk (.call f r))) := by
  obtain ⟨k, fa, fd, ps, F, gu, hr, hm, hk, hb⟩ := F.ex
  exact PE.imp (pe_callG F gu hr hg hm hk hb (fun σ => passAt tk σ) ha hdb h1 h2) fun σ H Q h => call_imp hn h
theorem L_call0 {f : Nat} {nm : Str} (tk : Takes X W) (F : FnE X ca (cl f) 0 nm) (hg : Gl X nm) (hdb : (nm == ("__debug__" : Str)) = false) :
    PE X (.Call (.Name nm p) [] [] pos) (tE X.K ca W pk (evX cl pk (.call f .nil))) := by
  obtain ⟨k, fa, fd, ps, F, gu, hr, hm, hk, hb⟩ := F.ex
  refine ⟨fun pins s σ H Q I h => ?_⟩
  refine wpAny_Call_Name_kw (ld_glob I hg hm ?_ hdb)
  obtain ⟨τ, Θ, o, z⟩ := call_imp (n := 0) (fun τ as τ' e => by simp only [evA] at e; cases e; rfl) h
  simp only [evA, Out] at z
  have z2 := z [] H o.fit rfl trivial o.sp
  exact PySem.W.callWith_K0 I.kIn hk (run_fnG (us := []) (E := WE W) F gu hr hb (passAt tk σ) I .nil z2)
end
end EV
set_option Elab.async false
set_option linter.all false
set_option maxRecDepth 100000
set_option maxHeartbeats 1000000
namespace EV
open PySem PySem.Spec L2
open PyProof.Rows hiding St
section
variable {K : PySem.W.Frag} {ca : Nat → Addr} {H : Hp} {ps qs : Prs} {y : T} {v : V} {a d t : Addr} {c : Nat}
/-- a new error -/
theorem Sp.newX (h : Sp K ca H ((y, v) :: ps) qs) (ha : H a = none) (hd : H d = none) (ht : H t = none) (nat : a ≠ t) (ndt : d ≠ t) (nad : a ≠ d) :
    Sp K ca (upd (upd (upd H t (.tup [v])) d (.xd [("value", v)])) a (excH (some t) (ca c) d a)) ((.exc (2 * c) y, .ref a) :: ps) qs := by
  have m : ∀ b u, H b = some u → (upd (upd (upd H t (.tup [v])) d (.xd [("value", v)])) a (excH (some t) (ca c) d a)) b = some u := fun b u e => by
    rw [upd_ne (ne_of_none e ha), upd_ne (ne_of_none e hd), upd_ne (ne_of_none e ht)]
    exact e
  obtain ⟨fp, sh, fq, sq, h1, h2, h3, h4, h5⟩ := h
  have nt : ∀ b p, H p = none → Trk H b → b ≠ p := fun b p hp ⟨o, e, _⟩ z => by rw [z, hp] at e; cases e
  have t1 := h1.trk
  have t4 := h4.trk
  have k1 := RepP.keep (A := fun _ => True) (fun b u e _ => m b u e) h1 (fun _ _ => trivial) (fun _ _ => trivial)
  have k4 := RepP.keep (A := fun _ => True) (fun b u e _ => m b u e) h4 (fun _ _ => trivial) (fun _ _ => trivial)
  obtain ⟨f1, f2, s1, s2, r1, r2, rfl, rfl⟩ := k1
  refine ⟨f1 ++ f2, (a :: d :: s1) ++ s2, fq, sq, ⟨f1, f2, a :: d :: s1, s2, ?_, r2, rfl, rfl⟩, h2, fun b z w => ?_, k4, h5⟩
  · unfold Rep
    refine ⟨a, d, v, s1, some t, rfl, ?_, fun _ => ⟨t, rfl, ?_⟩, ?_, r1, rfl⟩
    · rw [show 2 * c / 2 = c by omega]
      exact upd_same
    · rw [upd_ne (Ne.symm nat), upd_ne (Ne.symm ndt)]
      exact upd_same
    · rw [upd_ne (Ne.symm nad)]
      exact upd_same
  · rcases List.mem_cons.mp z with z | z
    · exact nt b a ha (t1.1 b w) z
    · rcases List.mem_cons.mp z with z | z
      · exact nt b d hd (t1.1 b w) z
      · exact h3 b z w
end
section
variable {X : Cx} {ca : Nat → Addr} {W : WX} {pk : Bool} {cl : Call} {pos p p1 p2 : Pos} {ea : Expr} {a : E} {x : Str} {c : Nat}
theorem L_fz (ha : PE X ea (tE X.K ca W false (evX cl false a))) : PE X ea (tE X.K ca W pk (evX cl pk (.fz a))) := by
  refine PE.imp ha fun σ H Q ⟨τ, Θ, o, z⟩ => ?_
  simp only [evX] at z
  refine tE.use o (Out.bind z) fun t τ' v H' p g => ?_
  exact p _ _ (.of g.fit (g.keep.frz))
theorem L_mkx (J : JExc X.prog X.K (ca c)) (hs : X.mg "super" = none) (hr : Room 0 X.A) (hg : Gl X x) (hm : X.mg x = some (.ref (ca c))) (ha : PE X ea (tE X.K ca W false (evX cl false a))) (hns : starEach [ea] X.env = (false, eval ea X.env) :: starEach [] X.env)
    (hdb : (x == ("__debug__" : Str)) = false) : PE X (.Call (.Name x p) [ea] [] pos) (tE X.K ca W pk (evX cl pk (.mkx c a))) := by
  refine PE.imp (pe_jump J hs hr hg hm ha hns hdb) fun σ H Q ⟨τ, Θ, o, z⟩ => ?_
  simp only [evX] at z
  refine tE.use o (Out.bind z) fun t τ' v H' p g a d h1 h2 t1 h3 h4 h5 h6 => ?_
  exact p _ _ (.of g.fit (g.keep.frz.newX h1 h2 h3 h4 h5 h6))
/-- e.value of what is held -/
theorem L_vof {m : Nat} (hc : ∀ n, n < m → XfC X.K (ca n) ∧ PySem.W.findIn X.K (.ref (ca n)) "value" = some none) (hb : attributeBase ea "value" X.env (eval ea X.env) = eval ea X.env) (ha : PE X ea (tE X.K ca W true (evX cl true a))) :
    PE X (.Attribute ea "value" pos) (tE X.K ca W pk (evX cl pk (.vof m a))) := by
  refine PE.imp (pe_valx hb ha) fun σ H Q ⟨τ, Θ, o, z⟩ => ?_
  simp only [evX] at z
  refine tE.use o (Out.bind z) fun t τ' v H' p g => ?_
  cases t with
  | exc c y =>
    have p : Out (if c / 2 < m then pick pk y τ' else .bad) (fun t τ' => ∀ (v : V) (H' : Hp), Got X.K ca pk τ' σ Θ H' t v → Q v H') (EXC X.K ca W σ Θ) := p
    by_cases hm : c / 2 < m
    case neg =>
      rw [if_neg hm] at p
      exact p.elim
    rw [if_pos hm] at p
    have l := g.look
    obtain ⟨fp, sh, fq, sq, h1, h2, h3, ⟨f1, f2, s1, s2, r1, r2, rfl, rfl⟩, h5⟩ := l
    unfold Rep at r1
    obtain ⟨b, dx, x, s', k, rfl, e1, e2, e3, r, rfl⟩ := r1
    have l2 : Sp X.K ca H' (prs τ' σ ++ Θ) [(y, x)] := ⟨fp, sh, f1 ++ f2, s' ++ s2, h1, h2, h3, ⟨f1, f2, s', s2, r, r2, rfl, rfl⟩, fun q hq => h5 q (by simp at hq ⊢; exact .inr (.inr hq))⟩
    obtain ⟨pp, gg⟩ := Got.pickd g.fit p l2
    exact ⟨k, b, _, dx, x, rfl, (hc _ hm).1, (hc _ hm).2, e1, e3, pp _ _ gg⟩
  | _ => exact p.elim
/-- isinstance(e, C) of an own error: cs are the classes below C -/
theorem L_isx {nm ct : Str} {cv : Value} {vc : V} {cs : List Bool} (hg : Gl X nm) (hm : X.mg nm = none) (hb : bootBuiltins nm = some (.builtin "isinstance")) (h1 : nm ≠ "__name__") (h2 : (nm == ("__debug__" : Str)) = false)
    (hc : ∀ n b, cs[n]? = some b → ExcC X.K (ca n) ∧ PySem.W.kitOne X.K (.ref (ca n)) cv = some b) (hv : ∀ u, RelV vc u → u = cv) (ht : PE X (.Name ct p2) (tC vc)) (ha : PE X ea (tE X.K ca W true (evX cl true a)))
    (hs : starEach [ea, .Name ct p2] X.env = (false, eval ea X.env) :: starEach [.Name ct p2] X.env) (hpl : (backTo pos (starEach [.Name ct p2] X.env)).any (·.1) = false) :
    PE X (.Call (.Name nm p1) [ea, .Name ct p2] [] pos) (tE X.K ca W pk (evX cl pk (.isx a ct cs))) := by
  refine PE.imp (pe_callB call_isV hg hm hb (pa_cons ha (pa_cons ht pa_nil) hs) h1 h2 hs hpl) fun σ H Q ⟨τ, Θ, o, z⟩ => ?_
  simp only [evX] at z
  refine tE.use o (Out.bind z) fun t τ' v H' p g => ?_
  cases t with
  | exc c y =>
    have p : Out (match cs[c / 2]? with | some b => .ok (.im (.bl b)) τ' | none => .bad) (fun t τ' => ∀ (v : V) (H' : Hp), Got X.K ca pk τ' σ Θ H' t v → Q v H') (EXC X.K ca W σ Θ) := p
    cases hm : cs[c / 2]? with
    | none => rw [hm] at p; exact p.elim
    | some bb =>
    rw [hm] at p
    obtain ⟨fp, sh, fq, sq, q1, q2, q3, ⟨f1, f2, s1, s2, r1, r2, rfl, rfl⟩, q5⟩ := g.look
    unfold Rep at r1
    obtain ⟨b, dx, x, s', k, rfl, e1, e2, e3, r, rfl⟩ := r1
    exact ⟨b, _, dx, k, vc, cv, _, rfl, (hc (c / 2) _ hm).1, e1, ⟨_, e3⟩, hv, (hc (c / 2) _ hm).2, p _ _ (.of g.fit g.look.giveB)⟩
  | _ => exact p.elim
end
end EV
set_option Elab.async false
set_option linter.all false
set_option maxRecDepth 100000
set_option maxHeartbeats 1000000
namespace EV
open PySem PySem.Spec L2
open PyProof.Rows hiding St
/-! ### repr -/
/-- what the written part says of an error class, for repr -/
structure RpC (K : PySem.W.Frag) (C : Addr) (nm : Str) : Prop where
  fr : PySem.W.findIn K (.ref C) "__repr__" = some (some (.builtin "BaseException.__repr__"))
  cn : ∃ cd, PySem.W.clsIn K C = some cd ∧ Str.ofString ((cd.name.toString.cutAt '.').getLastD "") = nm
  hs : PySem.W.subIn K (.ref C) (.type "BaseException") = some true
section
open PySem.W PySem.Calls
variable {prog : Program} {w : World} {A : Around} {E : Value → Shared → Prop} {s : Shared} {K : Frag} {x C : Addr} {ox : Obj} {od : Option Obj}
theorem nameX {M : Model} {Q : String → Shared → Prop} {cd : ClassData} (X : K.In s.heap) (I : InstAt s.heap x ox C od) (hc : clsIn K C = some cd) (hq : Q cd.name.toString s) : wpAny M A (typeNameOfWhole (.ref x)) Q E s := by
  unfold typeNameOfWhole shownTypeOf
  refine wpAny_bind (wpAny_bind (I.type.here ?_))
  have e : ((Value.ref C == Value.type "builtin_function_or_method") = true) = False := by simp
  simp only [e, if_false]
  refine wpAny_pure ?_
  unfold typeNameWhole
  exact wpAny_bind ((looks_clsIn X hc).here (wpAny_pure hq))
theorem argsX {M : Model} {Q : Value × List Value → Shared → Prop} {t1 : Addr} {u : Value} {vs : Array Value} (I : InstAt s.heap x ox C od) (hd : ox.data = .fields vs) (h0 : vs[0]? = some (.ref t1)) (ht : IsTup s.heap t1 #[u]) (hq : Q (.ref t1, [u]) s) :
    wpAny M A (Builtin.BaseException.bexcArgs (.ref x)) Q E s := by
  obtain ⟨ot, hto, _, k, htd⟩ := ht
  unfold Builtin.BaseException.bexcArgs
  exact wpAny_bind (wpAny_field I.at_ hd h0 (wpAny_bind (wpAny_seqItems hto htd (wpAny_pure hq))))
theorem bodyX {Q : Fin → Shared → Prop} {nm : Str} {t1 : Addr} {u : Value} {d : PyData} {as : List Addr} {vs : Array Value} (R : RpC K C nm) (X : K.In s.heap) (I : InstAt s.heap x ox C od) (hd : ox.data = .fields vs) (h0 : vs[0]? = some (.ref t1))
    (ht : IsTup s.heap t1 #[u]) (r : Reads s.heap u d as) (hs : d.showable = true) (hsm : d.hasDict = true → sysModules ∉ as) (hg : A.guards = some []) (hu : A.units + d.depth < cLine) (hsz : nm.length + d.shown.length + 100 ≤ sizeLine)
    (hq : ∀ h' tk tk', (∀ b o, s.heap.get? b = some o → h'.get? b = some o) → Q (.done (.ret (.str (nm ++ Str.ofString "(" ++ d.shown ++ Str.ofString ")") tk'))) { s with heap := h', toks := tk }) :
    wpAny (model prog w) A (Builtin.«BaseException.__repr__» ⟨[.ref x], []⟩) Q E s := by
  obtain ⟨cd, hc, hn⟩ := R.cn
  obtain ⟨bs, hb, hk⟩ := ReprK.of_reads (prog := prog) (w := w) r hs hsm (by omega)
  have hsz2 : (nm ++ Str.ofString "(" ++ d.shown ++ Str.ofString ")").length ≤ sizeLine := by
    rw [strLen_append, strLen_append, strLen_append, PySem.ofString_length, PySem.ofString_length]
    show nm.length + 1 + d.shown.length + 1 ≤ sizeLine
    omega
  unfold Builtin.«BaseException.__repr__» Builtin.bexcReprAt
  refine wpAny_bind (wpAny_of_eq (a := ((Value.ref x : Value), ([] : List Value))) (by first | rfl | (simp only [slotArgs]; rfl)) ?_)
  refine wpAny_bind (nameX X I hc ?_)
  refine wpAny_bind (argsX I hd h0 ht ?_)
  refine wpAny_bind (wpAny_rule ?_)
  rw [show (((cd.name.toString.cutAt '.').getLastD "" : String) : Str) = nm from hn]
  refine wpAny_bind (hk (0 + (nm.length + 1)) (by omega) A [] E s _ hg (fun b _ => Clear.nil b) hu (fun _ _ e => e) fun h' tk kk => ?_)
  repeat (first | wp_step)
  exact hq _ _ _ kk
/-- repr of an own error -/
theorem call_rpx {Q : Value → Shared → Prop} {nm : Str} {t1 : Addr} {u : Value} {d : PyData} {as : List Addr} {vs : Array Value} (R : RpC K C nm) (X : K.In s.heap) (I : InstAt s.heap x ox C od) (hd : ox.data = .fields vs) (h0 : vs[0]? = some (.ref t1))
    (ht : IsTup s.heap t1 #[u]) (r : Reads s.heap u d as) (hs : d.showable = true) (hsm : d.hasDict = true → sysModules ∉ as) (hg : A.guards = some []) (hu : A.units + (d.depth + 5) < cLine) (hsz : nm.length + d.shown.length + 100 ≤ sizeLine)
    (hq : ∀ h' tk tk', (∀ b o, s.heap.get? b = some o → h'.get? b = some o) → Q (.str (nm ++ Str.ofString "(" ++ d.shown ++ Str.ofString ")") tk') { s with heap := h', toks := tk }) :
    wpAny (model prog w) A (call (.builtin "repr") [.ref x]) Q E s := by
  refine Calls.call_function_entry F.kind_repr F.plain_repr F.entry_repr (F.args_repr1 _) ?_
  unfold Builtin.«repr»
  refine wpAny_bind (m := oneArg "repr" _) (wpAny_pure ?_)
  refine wpAny_bind (m := cRoomFor _ _) (wpAny_cRoomFor (by show A.units + 1 < cLine; omega) ?_)
  unfold specialOf
  refine wpAny_bind (wpAny_bind (I.type.here ((looks_findIn X R.fr).here ?_)))
  have a4 : Looks (model prog w) s.heap (isInstance (.ref x) (.type "BaseException")) true := I.type.andThen (looks_subIn X R.hs)
  have fin : wpAny (model prog w) A.in1 (call (.builtin "BaseException.__repr__") [.ref x]) (fun v s' => ∃ m tk h' tk', v = .str m tk ∧ m = nm ++ Str.ofString "(" ++ d.shown ++ Str.ofString ")" ∧ s' = { s with heap := h', toks := tk' } ∧ (∀ b o, s.heap.get? b = some o → h'.get? b = some o)) E s := by
    refine wpAny_call (codeAny_call_builtin F.excStr_ValueError.repr.plain F.entry_bexc_repr (check_slot (i := "BaseException.__repr__") (owner := "BaseException") (n := "__repr__") (self := .ref x) (rest := []) (kw := []) (by decide +kernel) (by decide +kernel) a4 (F.args_bexc_repr (.ref x)) ?_))
    refine bodyX R X I hd h0 ht r hs hsm hg (by show A.units + 1 + 1 + d.depth < cLine; omega) hsz fun h' tk tk' kk => ?_
    exact ⟨_, _, h', tk, rfl, rfl, rfl, kk⟩
  have nx : ∀ {Q : Option Value → Shared → Prop}, (∀ h' tk tk', (∀ b o, s.heap.get? b = some o → h'.get? b = some o) → Q (some (.str (nm ++ Str.ofString "(" ++ d.shown ++ Str.ofString ")") tk')) { s with heap := h', toks := tk }) →
      wpAny (model prog w) A.in1 (callSpecialIfBound? (.ref x) (Str.ofString "__repr__")) Q E s := fun {Q} hQ => by
    simp only [callSpecialIfBound?, bindSpecialIfBound?, specialOf]
    refine wpAny_holding (wpAny_bind (wpAny_bind (wpAny_bind (I.type.here ((looks_findIn X R.fr).here ?_)))))
    simp only [F.excStr_ValueError.repr.bind]
    refine wpAny_bind (wpAny_askSetting (wpAny_ite ?_))
    have fin2 : wpAny (model prog w) A.in1 (call (.builtin "BaseException.__repr__") ([.ref x] ++ []) >>= fun v => pure (some v)) Q E s := wpAny_bind (wpAny_mono fin (fun v s' ⟨m, tk, h', tk', e1, e2, e3, kk⟩ => by
      subst e1 e2 e3
      exact wpAny_pure (hQ _ _ _ kk)) fun _ _ h' => h')
    split
    · exact wpAny_bind (wpAny_pure (wpAny_pure fin2))
    · exact wpAny_tryCatch (wpAny_bind (wpAny_pure (wpAny_pure fin2)))
  refine wpAny_bind (m := callSpecialIfBound? (.ref x) (Str.ofString "__repr__")) (nx fun h' tk tk' kk => ?_)
  refine wpAny_bind (wpAny_isInstance (T := "str") (b := true) rfl isSubtype_str_str ?_)
  exact wpAny_pure ⟨_, rfl, hq _ _ _ kk⟩
end
section
variable {X : Cx} {ca : Nat → Addr} {W : WX} {pk : Bool} {cl : Call} {pos p p1 p2 : Pos} {ea : Expr} {a : E} {nm : Str}
theorem shOk_some {t : T} {z : Str} (h : shOk t = some z) : ∃ d, tpy t = some d ∧ d.showable = true ∧ (∀ as, AsOk d as → d.hasDict = true → sysModules ∉ as) ∧ d.depth ≤ 100 ∧ d.shown.length + 200 ≤ SL ∧ z = d.shown := by
  unfold shOk at h
  cases e : tpy t with
  | none => rw [e] at h; cases h
  | some d =>
    rw [e] at h
    replace h : (if shD d = true then some d.shown else none) = some z := h
    by_cases hc : shD d = true
    case neg => rw [if_neg hc] at h; cases h
    rw [if_pos hc] at h
    cases h
    unfold shD at hc
    simp only [Bool.and_eq_true, decide_eq_true_eq] at hc
    refine ⟨d, rfl, hc.1.1.1, fun as k hd => ?_, hc.1.2, hc.2, rfl⟩
    have z := hc.1.1.2
    cases d with
    | dict kvs =>
      simp only [dctOk, Bool.and_eq_true] at z
      exact k.2 kvs rfl z.1 z.2
    | _ =>
      simp only [dctOk, Bool.not_eq_true'] at z
      rw [z] at hd
      cases hd
theorem rpF_exc {nms : List Str} {c : Nat} {y : T} {z : Str} (e : rpF nms (.exc c y) = some z) : ∃ n x, nms[c / 2]? = some n ∧ shOk y = some x ∧ c % 2 = 0 ∧ n.length ≤ 90 ∧ z = n ++ Str.ofString "(" ++ x ++ Str.ofString ")" := by
  unfold rpF at e
  cases h1 : nms[c / 2]? with
  | none => simp only [h1] at e; cases e
  | some n =>
    cases h2 : shOk y with
    | none => simp only [h1, h2] at e; cases e
    | some x =>
      simp only [h1, h2] at e
      by_cases hc : c % 2 = 0 ∧ n.length ≤ 90
      · rw [if_pos hc] at e
        cases e
        exact ⟨n, x, rfl, rfl, hc.1, hc.2, rfl⟩
      · rw [if_neg hc] at e
        cases e
/-- repr of what is held -/
def rRp (K : PySem.W.Frag) (ca : Nat → Addr) (nms : List Str) : List V → Hp → VK → Prop := fun xs H Q => ∃ t v ps s, xs = [v] ∧ Sp K ca H ps [(t, v)] ∧ rpF nms t = some s ∧ Q (.str s) H
theorem call_rp {nms : List Str} (hu : X.A.units + 150 < cLine) (hg : X.A.guards = some []) (hc : ∀ n nm, nms[n]? = some nm → RpC X.K (ca n) nm) : CallR X (.builtin "repr") (rRp X.K ca nms) := by
  intro pins s σ H xs us Q I r h
  obtain ⟨t, v, ps, z, rfl, sp, e, q⟩ := h
  obtain ⟨u, rfl, ru⟩ := vals1 r
  have key : shOk t = some z → wpAny (model X.prog X.w) X.A (call (.builtin "repr") [u]) (EP X pins σ Q) X.xe s := fun e => by
    obtain ⟨d, e1, e2, e3, e4, e5, rfl⟩ := shOk_some e
    obtain ⟨as, r1, k⟩ := sp.reads I e1 ru
    have hsm := e3 as k
    have hz : d.shown.length ≤ sizeLine := by rw [line_SL]; omega
    have fin : ∀ h' tk tk', (∀ b o, s.heap.get? b = some o → h'.get? b = some o) → EP X pins σ Q (.str d.shown tk') { s with heap := h', toks := tk } := fun h' tk tk' kk => ⟨.str d.shown, H, I.kept (t' := tk) kk, ⟨tk', rfl⟩, q⟩
    have fin0 : ∀ tk, EP X pins σ Q (.str d.shown tk) { s with toks := s.toks + 1 } := fun tk => fin s.heap (s.toks + 1) tk fun _ _ e => e
    cases r1 with
    | none => exact PySem.P.repr_of_none (fin0 _)
    | bool b => exact PySem.P.repr_of_bool (fin0 _)
    | int i t => exact PySem.P.repr_of_int (by simpa [PyData.showable] using e2) (fin0 _)
    | str i t => exact PySem.P.repr_of_str (fin0 _) hz
    | list h1 h2 h3 h4 => exact repr_of_reads' (.list h1 h2 h3 h4) e2 hsm hg (by omega) (fun _ _ e => e) (fun h' u tk kk => fin h' tk u kk) hz
    | tuple h1 h2 h3 h4 => exact repr_of_reads' (.tuple h1 h2 h3 h4) e2 hsm hg (by omega) (fun _ _ e => e) (fun h' u tk kk => fin h' tk u kk) hz
    | dict h1 h2 h3 h4 h5 => exact repr_of_reads' (.dict h1 h2 h3 h4 h5) e2 hsm hg (by omega) (fun _ _ e => e) (fun h' u tk kk => fin h' tk u kk) hz
  cases t with
  | exc c y =>
    obtain ⟨n, x, h1, h2, hc2, hl, rfl⟩ := rpF_exc e
    obtain ⟨d, e1, e2, e3, e4, e5, rfl⟩ := shOk_some h2
    obtain ⟨fp, sh, fq, sq, q1, q2, q3, ⟨f1, f2, s1, s2, r1, r2, rfl, rfl⟩, q5⟩ := sp
    unfold Rep at r1
    obtain ⟨b, dx, x, s', k, rfl, g1, g2, g3, rr, rfl⟩ := r1
    cases ru
    obtain ⟨t1, rfl, ht1⟩ := g2 hc2
    obtain ⟨oe, vs, w1, w2, w3, w4, w5⟩ := excH_at I.hok g1
    obtain ⟨mA, hns, hr⟩ := show ObjOk X.prog X.w H s.heap dx (.xd _) from I.hok dx _ g3
    obtain ⟨od, ho, _⟩ := lookIn_ns hns
    have J : PySem.W.InstAt s.heap b oe (ca (c / 2)) (some od) := ⟨w1, w2, by unfold PySem.W.notCls; rw [w4] <;> rfl, by rw [w3]; exact ho⟩
    obtain ⟨_, its, rv, tt⟩ := show ObjOk X.prog X.w H s.heap t1 (.tup [x]) from I.hok t1 _ ht1
    obtain ⟨u, rfl, ru⟩ := vals1 rv
    obtain ⟨as, r1, k⟩ := Rep.reads I rr e1 ru
    exact call_rpx (hc _ _ h1) I.kIn J w4 (w5 _ rfl) tt r1 e2 (e3 as k) hg (by omega) (by rw [line_SL]; omega) fun h' tk tk' kk => ⟨.str _, H, I.kept (t' := tk) kk, ⟨tk', rfl⟩, q⟩
  | _ => exact key e
theorem L_rp {nms : List Str} (hu : X.A.units + 150 < cLine) (hg : X.A.guards = some []) (hc : ∀ n nm, nms[n]? = some nm → RpC X.K (ca n) nm) (hgl : Gl X nm) (hm : X.mg nm = none) (hb : bootBuiltins nm = some (.builtin "repr")) (h1 : nm ≠ "__name__") (h2 : (nm == ("__debug__" : Str)) = false)
    (ha : PE X ea (tE X.K ca W true (evX cl true a))) (hs : starEach [ea] X.env = (false, eval ea X.env) :: starEach [] X.env) (hpl : (backTo pos (starEach ([] : List Expr) X.env)).any (·.1) = false) :
    PE X (.Call (.Name nm p1) [ea] [] pos) (tE X.K ca W pk (evX cl pk (.rp nms a))) := by
  refine PE.imp (pe_callB (call_rp hu hg hc) hgl hm hb (pa_cons ha pa_nil hs) h1 h2 hs hpl) fun σ H Q ⟨τ, Θ, o, z⟩ => ?_
  simp only [evX] at z
  refine tE.use o (Out.bind z) fun t τ' v H' p g => ?_
  obtain ⟨r, e, p⟩ := Out.ret p
  obtain ⟨s, e1, rfl⟩ := Option.map_eq_some_iff.mp e
  exact ⟨t, v, _, s, rfl, g.look, e1, p _ _ (.of g.fit g.look.giveS)⟩
/-! ### displays of dicts of constants -/
theorem tPairs_c : ∀ {l : List (V × V)} {σ : L2.St} {H : Hp} {Q : List (V × V) → Hp → Prop}, Q l H → tPairs (l.map fun p => (tC p.1, tC p.2)) σ H Q
  | [], σ, H, Q, h => h
  | p :: l, σ, H, Q, h => tPairs_c (l := l) (Q := fun ps H3 => Q ((p.1, p.2) :: ps) H3) h
theorem putK_new {kvs : List (Key × V)} {k : Key} {v : V} (h : k ∉ kvs.map (·.1)) : putK kvs k v = kvs ++ [(k, v)] := by
  unfold putK
  rw [if_neg]
  simp only [List.any_eq_true, decide_eq_true_eq, not_exists, not_and]
  intro p hp e
  exact h (List.mem_map.mpr ⟨p, hp, e⟩)
theorem mergeK_new : ∀ {more kvs : List (Key × V)}, (kvs.map (·.1) ++ more.map (·.1)).Nodup → mergeK kvs more = kvs ++ more
  | [], kvs, _ => by simp [mergeK]
  | p :: more, kvs, h => by
    show mergeK (putK kvs p.1 p.2) more = _
    have h1 : p.1 ∉ kvs.map (·.1) := by
      rw [List.map_cons, List.nodup_append] at h
      exact fun z => h.2.2 _ z p.1 (by simp) rfl
    rw [putK_new h1, mergeK_new (by simpa using h)]
    simp
theorem upd2 {H : Hp} {p : Addr} {a b : HO} : upd (upd H p a) p b = upd H p b := by
  funext q
  by_cases e : q = p
  · subst e
    rw [upd_same, upd_same]
  · rw [upd_ne e, upd_ne e, upd_ne e]
theorem L_dk {kvs : List (D × D)} {kk : List Key} {xs : List V} {keys : List (Option Expr)} {values : List Expr} (h : PPs X pos keys values ((kk.zip xs).map fun p => (tC (kV p.1), tC p.2))) (h1 : keys.all (·.isSome) = true)
    (h2 : keys.length = values.length) (h3 : keys ≠ []) (h4 : keys.length ≤ 15) (h5 : keys.length = kvs.length) (e1 : kvs.map (·.1) = kk.map kD) (e2 : kk.length = xs.length) (e3 : kvs.length = xs.length)
    (hs : ∀ ps H, Sp X.K ca H ps [] → Sp X.K ca H ((kvs.map fun p => T.im p.2).zip xs ++ ps) []) : PE X (.Dict keys values pos) (tE X.K ca W pk (evX cl pk (.dk kvs))) := by
  refine PE.imp (pe_disp h h1 h2 h3 h4) fun σ H Q ⟨τ, Θ, o, z⟩ => ?_
  simp only [evX] at z
  split at z
  case isFalse => exact z.elim
  rename_i hc
  simp only [Bool.and_eq_true, decide_eq_true_eq] at hc
  have nd : kk.Nodup := by
    have := hc.2
    rw [e1] at this
    exact (List.pairwise_map.mp this).imp fun h e => h (by rw [e])
  intro p hp
  rw [show ((kk.zip xs).map fun p => (tC (kV p.1), tC p.2)) = (((kk.zip xs).map fun p => (kV p.1, p.2)).map fun p => (tC p.1, tC p.2)) by rw [List.map_map]; rfl]
  refine tPairs_c ⟨upd_same, kk.zip xs, rfl, by rw [List.length_zip, e2, Nat.min_self]; omega, ?_⟩
  have em : mergeK [] (kk.zip xs) = kk.zip xs := by
    rw [mergeK_new (by simpa [List.map_fst_zip (Nat.le_of_eq e2)] using nd)]
    rfl
  rw [upd2, em]
  refine z _ _ (.of o.fit (Sp.closeD (xs := xs) ((hs _ _ o.sp).newCell hp (o := .dK (kk.zip xs)) rfl) (by rw [List.length_map]; exact e3) ⟨kk, e1, e2, upd_same, nd⟩))
end
end EV
set_option Elab.async false
set_option linter.all false
set_option maxRecDepth 100000
set_option maxHeartbeats 1000000
namespace PySem
open AutoSeq1 (wpAny_loadPart')
theorem ev_enum_newT (l : Addr) (items : Array Value) (n : Nat) (dct : Option Addr) (sl : Array (Option Value)) :
    Meets (Builtin.«enumerate.__new__» ⟨[.type "enumerate", .ref l], []⟩) (fun _ R s => s.heap.get? l = some { cls := .type "tuple", dict := dct, data := .seq items n, slots := sl } ∧
      R (.ok (.ret (.ref (s.heap.push { cls := .type "tuple_iterator", data := .fields #[.ref l, .int 0 0] }).objs.size)))
        { s with heap := (s.heap.push { cls := .type "tuple_iterator", data := .fields #[.ref l, .int 0 0] }).push { cls := .type "enumerate", data := .fields #[.none, .bool false, .ref s.heap.objs.size, rawInt 0, .none, .none] } }) :=
  .of_wp fun prog w A R s h => by
    obtain ⟨hp, g, d, tk, os⟩ := s; obtain ⟨hl, h⟩ := h
    have hsub := sub_enumerate
    have hL : Heap.IsTuple (Shared.heap ⟨hp, g, d, tk, os⟩) l items := ⟨_, hl, rfl, n, rfl⟩
    wp_walk using wpAny_loadPart' hl
    refine wpAny_stack_any fun st => wpAny_pure ?_
    split
    · rename_i c _ _ _ _ _
      cases (c == Value.type "enumerate")
      · wp_walk using wpAny_loadPart' hl, wpAny_pyIter_tuple hL
        exact ⟨_, rfl, h⟩
      · wp_walk using wpAny_loadPart' hl, wpAny_pyIter_tuple hL
        exact ⟨_, rfl, h⟩
    · wp_walk using wpAny_loadPart' hl, wpAny_pyIter_tuple hL
      exact ⟨_, rfl, h⟩
section
variable {prog : Program} {w : World} {A : Around} {E : Value → Shared → Prop} {s : Shared}
theorem ev_call_enumT {l : Addr} {items : Array Value} {Q : Value → Shared → Prop} (hL : s.heap.IsTuple l items)
    (h : ∀ h', IsEnum h' (s.heap.objs.size + 1) s.heap.objs.size 0 .none → h'.IsTupleIter s.heap.objs.size l 0 → h'.objs.size = s.heap.objs.size + 2 →
      (∀ b o, s.heap.get? b = some o → h'.get? b = some o) → Q (.ref (s.heap.objs.size + 1)) { s with heap := h' }) :
    wpAny (model prog w) A (call (.type "enumerate") [.ref l]) Q E s := by
  obtain ⟨⟨c, dct, dt, sl⟩, hl, hc, n, hd⟩ := hL
  replace hc : c = .type "tuple" := hc
  replace hd : dt = .seq items n := hd
  subst hc hd
  refine callType_new F.called_enumerate (by decide) (F.typeCall_enumerate_1 _) (F.newCall_enumerate_1 _) (fun obj => F.args_object_init_2 obj _) F.entry_enumerate_new
    (ev_enum_newT l items n dct sl) ⟨hl, ?_⟩
  have hz : (s.heap.push { cls := .type "tuple_iterator", data := .fields #[.ref l, .int 0 0] }).objs.size = s.heap.objs.size + 1 := Heap.size_push ..
  show _ ∧ _
  rw [hz]
  have he : IsEnum ((s.heap.push { cls := .type "tuple_iterator", data := .fields #[.ref l, .int 0 0] }).push
      { cls := .type "enumerate", data := .fields #[.none, .bool false, .ref s.heap.objs.size, rawInt 0, .none, .none] }) (s.heap.objs.size + 1) s.heap.objs.size 0 .none := by
    have := Heap.get?_push_size (s.heap.push { cls := .type "tuple_iterator", data := .fields #[.ref l, .int 0 0] })
      (o := { cls := .type "enumerate", data := .fields #[.none, .bool false, .ref s.heap.objs.size, rawInt 0, .none, .none] }) rfl
    rw [hz] at this; exact this
  refine ⟨⟨_, he, rfl⟩, h _ he ⟨_, Heap.get?_push_of_some _ (Heap.get?_push_size _ rfl), rfl, rfl⟩ (by rw [Heap.size_push, hz]) fun b o x => Heap.get?_push_of_some _ (Heap.get?_push_of_some _ x)⟩
end
theorem ev_drawsT {prog : Program} {w : World} {A : Around} (hh : A.handled = none) (it l : Addr) (hne : l ≠ it) (items : Array Value) :
    Draws prog w A it [it, l] items.size (fun i v => items[i]? = some v) (fun i h => h.IsTupleIter it l i ∧ h.IsTuple l items) where
  live := fun _ _ st => let ⟨o, ho, _⟩ := st.1; ⟨o, ho⟩
  frame := fun _ _ _ st hk => ⟨st.1.at fun o e => hk it (by simp) o e, by obtain ⟨o, ho, hc, n, hd⟩ := st.2; exact ⟨o, hk l (by simp) o ho, hc, n, hd⟩⟩
  item := fun i s Q E hi st hQ => by
    refine RZ.nextOf_tuple_item st.1 st.2 (x := items[i]) (by simp [hi]) fun h' hit' hs' => ?_
    refine hQ _ h' s.toks (by simp [hi]) ⟨hit', ?_⟩ hs'
    obtain ⟨o, ho, hc, n, hd⟩ := st.2
    exact ⟨o, (hs'.2 l hne).trans ho, hc, n, hd⟩
  done := fun s Q E st hE => RZ.nextOf_tuple_end hh st.1 st.2 (by simp) hE
end PySem
namespace EV
open PySem PySem.Spec L2
open PyProof.Rows hiding St
/-- enumerate of a tuple -/
def IteT (K : PySem.W.Frag) (a : Addr) : L2.It :=
  ⟨fun i H => ∃ (xs : List V) (x : V), SqT K H a xs ∧ xs[i]? = some x, fun i H v H' => ∃ T x, v = .ref T ∧ H T = none ∧ H' = upd H T (.tup [.int (i : Nat), x]) ∧ ∀ xs, SqT K H a xs → xs[i]? = some x, fun i H => ∃ xs : List V, SqT K H a xs ∧ xs.length ≤ i⟩
theorem turn_enumT {P : Program} {w : World} {K : PySem.W.Frag} {elts : List Expr} {kk : Nat} {tpos : Pos} (a e it : Addr) :
    Turn P w K (.Tuple elts kk tpos) (IteT K a) [e, it] e (fun i h => (∃ old, IsEnum h e it ((i : Nat) : Int) old) ∧ h.IsTupleIter it a i ∧ e ≠ it) where
  mem := by simp
  obj := fun i h st b hb => by
    obtain ⟨⟨old, he⟩, ⟨o, ho, hc, hd⟩, _⟩ := st
    have e' : b = e ∨ b = it := by simpa using hb
    rcases e' with z | z
    · rw [z]; exact ⟨_, he, fun v q => nomatch q⟩
    · rw [z]; exact ⟨o, ho, fun v q => by rw [hd] at q; cases q⟩
  keep := fun i h h' st k => let ⟨⟨old, he⟩, hi, hne⟩ := st; ⟨⟨old, k e (by simp) _ he⟩, hi.at fun o q => k it (by simp) o q, hne⟩
  item := by
    intro X hP hw hK hc i pins s σ H E I hf st hg
    subst hP hw hK
    obtain ⟨⟨old, he⟩, hit, hne⟩ := st
    obtain ⟨xs, x, hq, hx⟩ := hg
    obtain ⟨its, rv, p, hz⟩ := I.tuple hq
    obtain ⟨u, hu, ru⟩ := rv.get hx
    have hel : e < s.heap.objs.size := Heap.lt_size he
    have hil : it < s.heap.objs.size := by obtain ⟨_, q, _⟩ := hit; exact Heap.lt_size q
    have hai : a ≠ it := fun z => by
      obtain ⟨o, ho, hc', n, hd⟩ := p
      obtain ⟨o2, ho2, hc2, hd2⟩ := hit
      rw [z, ho2] at ho
      cases ho
      rw [hd2] at hd
      cases hd
    have hae : e ∉ [it, a] := fun z => by
      rcases List.mem_cons.mp z with z | z
      · exact hne z
      · have z : e = a := by simpa using z
        obtain ⟨o, ho, hc', n, hd⟩ := p
        rw [← z, he] at ho
        cases ho
        cases hd
    have hil2 : i < its.toArray.size := by
      have := rv.length
      have := (List.getElem?_eq_some_iff.mp hx).1
      simp; omega
    have dr := ev_drawsT (prog := X.prog) (w := X.w) (A := X.A.in1) (I.ok.hd hc) it a hai its.toArray
    refine wpAny_pyNext_enum_itemD dr he ⟨hit, p⟩ hil2 hne hae fun x2 h' tk hx2 ho hst hT hsz hk => ?_
    have ex : x2 = u := by
      rw [show its.toArray[i]? = some u by simpa using hu] at hx2
      exact (Option.some.inj hx2).symm
    subst ex
    refine ⟨_, rfl, wpAny_letOwnedTupleGo_enum (s := { s with heap := h', toks := tk + 1 }) ho fun h'' he' sb => ?_⟩
    have hT2 : h''.get? s.heap.objs.size = some { cls := .type "tuple", data := .seq #[.int i tk, x2] } := (sb.2 _ (Nat.ne_of_gt hel)).trans hT
    have new : ObjOk X.prog X.w (upd H s.heap.objs.size (.tup [.int (i : Nat), x])) h'' s.heap.objs.size (.tup [.int (i : Nat), x]) :=
      ⟨by show 2 ≤ sizeLine; decide, [.int i tk, x2], .cons ⟨_, rfl⟩ (.cons ru .nil), ⟨_, hT2, rfl, _, rfl⟩⟩
    have I1 : L2.Inv X pins σ (upd H s.heap.objs.size (.tup [.int (i : Nat), x])) { s with heap := h'', toks := tk + 1 } :=
      I.turnedNew (ch := [e, it]) (fun b ob hb q => (sb.2 b (fun z => hb (by simp [z]))).trans (hk b ob (fun z => hb (by simp [z])) (fun z => hb (by simp [z])) q)) hf (Nat.le_refl _) new
    refine ⟨.ref s.heap.objs.size, _, I1, rfl, ⟨_, x, rfl, I.hok.fresh (Nat.le_refl _), rfl, fun ys hy => by rw [I.tuple_inj hy hq]; exact hx⟩, ⟨⟨x2, ?_⟩, hst.1.at fun o q => (sb.2 it (Ne.symm hne)).trans q, hne⟩, fun b hb => ?_⟩
    · have e1 : ((i + 1 : Nat) : Int) = (i : Int) + 1 := by omega
      rw [e1]; exact he'
    · have hb' : b < s.heap.objs.size := by
        have e' : b = e ∨ b = it := by simpa using hb
        rcases e' with z | z
        · rw [z]; exact hel
        · rw [z]; exact hil
      rw [upd_ne (Nat.ne_of_lt hb')]
      exact (hf b hb).1
  done := by
    intro X hP hw hK hc i pins s σ H E I hf st hg
    subst hP hw hK
    obtain ⟨⟨old, he⟩, hit, hne⟩ := st
    obtain ⟨xs, hq, hx⟩ := hg
    obtain ⟨its, rv, p, hz⟩ := I.tuple hq
    obtain ⟨f0, f1, f2, f3, f4, f5⟩ := hf it (by simp)
    have hl := rv.length
    have hT : s.TypeIs (.ref e) "enumerate" := ⟨_, he, rfl⟩
    unfold pyNext
    refine wpAny_bind (wpAny_attempt (wpAny_callSpecial?_slot (name := Str.ofString "__next__") hT PySem.F.slot_enumerate_next
      (wpAny_call_entry PySem.F.slot_enumerate_next hT PySem.F.entry_enumerate_next ?_ (PySem.F.args_enumerate_next_1 _))))
    show wpAny _ _ (field (.ref e) 2 >>= _) _ _ _
    refine wpAny_bind (wpAny_field he rfl (x := .ref it) rfl ?_)
    refine wpAny_bind (RZ.nextOf_tuple_end (show X.A.in1.handled = none from I.ok.hd hc) hit p (by simp; omega) fun h' x he' hx' => ?_)
    obtain ⟨o, ho, hc⟩ := hx'
    refine wpAny_bind (wpAny_isInstance (T := "StopIteration") (b := true) ⟨o, ho, hc⟩ isSubtype_stop ?_)
    exact wpAny_pure ⟨rfl, I.turned (t' := s.toks) (fun b o hb q => he' b o hb q) f0 f1 f3 f4 f5⟩
  self := fun A i s Q E st h => let ⟨⟨_, he⟩, _⟩ := st; wpAny_pyIter_enum he h
/-- enumerate of a list, of a tuple -/
def iEnumA (K : PySem.W.Frag) (ta : TA) : TI := fun σ H R => ta σ H fun vs H1 => ∃ a xs, vs = [.ref a] ∧ ((SqL K H1 a xs ∧ R (Ite K a) H1) ∨ (SqT K H1 a xs ∧ R (IteT K a) H1))
theorem pi_enumA {X : Cx} {e : Expr} {ta : TA} {p pos tpos : Pos} {elts : List Expr} {kk : Nat} (hg : Gl X "enumerate") (hm : X.mg "enumerate" = none) (ha : PA X [e] ta) (hs : starEach [e] X.env = (false, eval e X.env) :: starEach [] X.env) :
    PI X (.Tuple elts kk tpos) (.Call (.Name "enumerate" p) [e] [] pos) (iEnumA X.K ta) := by
  refine ⟨fun pins s σ H R I h => ?_⟩
  refine Call_ (ld_blt I hg hm boot_enumerate (PyProof.Rows.callWith_type1 (thn (ha.run pos pins s σ H _ I h) fun us s1 ⟨vs, H1, I1, r1, q1⟩ => ?_) hs rfl))
  obtain ⟨a, xs, rfl, q⟩ := q1
  cases r1 with
  | cons r rr =>
    cases rr
    cases r
    rcases q with ⟨hq, q⟩ | ⟨hq, q⟩
    · obtain ⟨its, rv, p', hz⟩ := I1.list hq
      refine call_enumerate_list p'.isList fun h' he hit hsz hk => wpAny_pyIter_enum he ?_
      have I2 : L2.Inv X pins σ H1 { s1 with heap := h' } := I1.kept (t' := s1.toks) hk
      refine ⟨s1.heap.objs.size + 1, [s1.heap.objs.size + 1, s1.heap.objs.size], _, _, H1, rfl, I2, turn_enum a (s1.heap.objs.size + 1) s1.heap.objs.size, ⟨⟨.none, he⟩, hit, Nat.succ_ne_self _⟩, fun b hb => ?_, q⟩
      have e' : b = s1.heap.objs.size + 1 ∨ b = s1.heap.objs.size := by simpa using hb
      have hle : s1.heap.objs.size ≤ b := by
        rcases e' with z | z
        · rw [z]; exact Nat.le_add_right _ _
        · rw [z]; exact Nat.le_refl _
      exact I1.fpOk hle (I1.hok.fresh hle)
    · obtain ⟨its, rv, p', hz⟩ := I1.tuple hq
      refine ev_call_enumT (show s1.heap.IsTuple a its.toArray from p') fun h' he hit hsz hk => wpAny_pyIter_enum he ?_
      have I2 : L2.Inv X pins σ H1 { s1 with heap := h' } := I1.kept (t' := s1.toks) hk
      refine ⟨s1.heap.objs.size + 1, [s1.heap.objs.size + 1, s1.heap.objs.size], _, _, H1, rfl, I2, turn_enumT a (s1.heap.objs.size + 1) s1.heap.objs.size, ⟨⟨.none, he⟩, hit, Nat.succ_ne_self _⟩, fun b hb => ?_, q⟩
      have e' : b = s1.heap.objs.size + 1 ∨ b = s1.heap.objs.size := by simpa using hb
      have hle : s1.heap.objs.size ≤ b := by
        rcases e' with z | z
        · rw [z]; exact Nat.le_add_right _ _
        · rw [z]; exact Nat.le_refl _
      exact I1.fpOk hle (I1.hok.fresh hle)
end EV
set_option Elab.async false
set_option linter.all false
set_option maxRecDepth 100000
set_option maxHeartbeats 1000000
namespace EV
open PySem PySem.Spec L2
open PyProof.Rows hiding St
section
variable {X : Cx} {ca : Nat → Addr} {W : WX} {pk : Bool} {cl : Call} {pos p p1 p2 p3 p4 apos cpos : Pos} {ea eb ec tg : Expr} {a b c : E} {n : Nat}
variable {τ τ' : Env} {σ : L2.St} {Θ Θ' : Prs} {H H' : Hp} {t u : T} {v x : V} {K : PySem.W.Frag} {es : List Expr} {r : Es}
/-! ### what is walked -/
structure WkE (K : PySem.W.Frag) (ca : Nat → Addr) (J : L2.It) (items : List T) (Θ : Prs) : Prop where
  goes : ∀ i H R, i < items.length → Sp K ca H (R ++ Θ) [] → J.go i H
  stops : ∀ H R, Sp K ca H (R ++ Θ) [] → J.stop items.length H
  yields : ∀ i H x H' R, i < items.length → Sp K ca H (R ++ Θ) [] → J.yld i H x H' → ∃ t, items[i]? = some t ∧ Sp K ca H' ((t, x) :: (R ++ Θ)) []
theorem WkE.walk {J : L2.It} {items : List T} (w : WkE K ca J items Θ) : Walk J items.length (fun H => ∃ R, Sp K ca H (R ++ Θ) []) (fun i H x H' => J.yld i H x H') :=
  ⟨fun i H hi ⟨R, q⟩ => w.goes i H R hi q, fun H ⟨R, q⟩ => w.stops H R q, fun _ _ _ _ _ _ y => y⟩
theorem get_zip {ts : List T} {xs : List V} {i : Nat} (n : ts.length = xs.length) (hi : i < ts.length) (hx : xs[i]? = some x) : ∃ t, ts[i]? = some t ∧ (t, x) ∈ ts.zip xs := by
  refine ⟨ts[i], List.getElem?_eq_getElem hi, ?_⟩
  have hx' : i < xs.length := by omega
  have hz : i < (ts.zip xs).length := by simp; omega
  have e1 : xs[i] = x := by
    rw [List.getElem?_eq_getElem hx'] at hx
    exact Option.some.inj hx
  have : (ts.zip xs)[i] = (ts[i], x) := by rw [List.getElem_zip, e1]
  rw [← this]
  exact List.getElem_mem hz
theorem Sp.lastq {R : Prs} {q : T × V} (sp : Sp K ca H (R ++ [q]) []) : Sp K ca H (R ++ [q]) [q] := sp.peek (by simp)
theorem Sp.holdIt {ts : List T} {xs : List V} {ps qs : Prs} (sp : Sp K ca H ps (ts.zip xs ++ qs)) (c : T.cleans ts = true) (h : (t, x) ∈ ts.zip xs) : Sp K ca H ((t, x) :: ps) [] :=
  ((sp.only (List.mem_append_left _ h)).hold (cleans_zip c _ h))
theorem wk_list {A : Addr} {us : List T} (c : T.cleans us = true) {o : Bool} : WkE K ca (Itl K A) us [(.lst o us, .ref A)] where
  goes := fun i H R hi sp => by
    obtain ⟨a, xs, e, ha, n, _⟩ := sp.lastq.itemsL
    cases e
    exact ⟨xs, xs[i]'(by omega), vlst ha, by simp [show i < xs.length by omega]⟩
  stops := fun H R sp => by
    obtain ⟨a, xs, e, ha, n, _⟩ := sp.lastq.itemsL
    cases e
    exact ⟨xs, vlst ha, by omega⟩
  yields := fun i H x H' R hi sp y => by
    obtain ⟨a, xs, e, ha, n, si⟩ := sp.lastq.itemsL
    cases e
    obtain ⟨rfl, y⟩ := y
    obtain ⟨t, h1, h2⟩ := get_zip n hi (y xs (vlst ha))
    exact ⟨t, h1, si.holdIt c h2⟩
theorem wk_tup {A : Addr} {us : List T} {t : T} (et : tupOf t = some us) (c : T.cleans us = true) : WkE K ca (Itt K A) us [(t, .ref A)] where
  goes := fun i H R hi sp => by
    obtain ⟨a, xs, e, ha, n, _⟩ := sp.lastq.itemsT et
    cases e
    exact ⟨xs, xs[i]'(by omega), ha, by simp [show i < xs.length by omega]⟩
  stops := fun H R sp => by
    obtain ⟨a, xs, e, ha, n, _⟩ := sp.lastq.itemsT et
    cases e
    exact ⟨xs, ha, by omega⟩
  yields := fun i H x H' R hi sp y => by
    obtain ⟨a, xs, e, ha, n, si⟩ := sp.lastq.itemsT et
    cases e
    obtain ⟨rfl, y⟩ := y
    obtain ⟨t, h1, h2⟩ := get_zip n hi (y xs ha)
    exact ⟨t, h1, si.holdIt c h2⟩
theorem wk_str {z : Str} {Θ : Prs} : WkE K ca (Its z) (z.cps.toList.map fun c => T.im (.str ⟨#[c]⟩)) Θ where
  goes := fun i H R hi sp => by
    show i < z.cps.size
    simpa using hi
  stops := fun H R sp => by
    show z.cps.size ≤ _
    simp
  yields := fun i H x H' R hi sp y => by
    obtain ⟨rfl, c, hc, rfl⟩ := y
    refine ⟨.im (.str ⟨#[c]⟩), by simp [hc], sp.addD (by unfold RepD; rfl)⟩
theorem wk_rng {lo : Int} {n : Nat} {Θ : Prs} : WkE K ca (Itr lo n) (rng lo n) Θ where
  goes := fun i H R hi sp => by
    show i < n
    simpa [rng] using hi
  stops := fun H R sp => by
    show n ≤ _
    simp [rng]
  yields := fun i H x H' R hi sp y => by
    obtain ⟨rfl, rfl⟩ := y
    have hi' : i < n := by simpa [rng] using hi
    exact ⟨.im (.int (lo + (i : Nat))), by simp [rng, hi'], sp.addD (by unfold RepD; rfl)⟩
theorem enumL_len : ∀ {ts : List T} {k : Nat}, (enumL k ts).length = ts.length
  | [], _ => rfl
  | t :: ts, k => by simp [enumL, enumL_len (ts := ts)]
theorem enumL_get : ∀ {ts : List T} {k i : Nat} {t : T}, ts[i]? = some t → (enumL k ts)[i]? = some (mkTup [.im (.int ((k + i : Nat) : Int)), t])
  | [], k, i, t, h => by simp at h
  | u :: ts, k, 0, t, h => by
    simp at h
    subst h
    simp [enumL]
  | u :: ts, k, i + 1, t, h => by
    have := enumL_get (ts := ts) (k := k + 1) (i := i) (t := t) (by simpa using h)
    have e : k + 1 + i = k + (i + 1) := by omega
    rw [e] at this
    simpa [enumL] using this
theorem Sp.newPair {t1 t2 : T} {v1 v2 : V} {q : Addr} (sp : Sp K ca H ((t1, v1) :: (t2, v2) :: Θ) []) (hq : H q = none) : Sp K ca (upd H q (.tup [v1, v2])) ((mkTup [t1, t2], .ref q) :: Θ) [] :=
  Sp.newT (ts := [t1, t2]) (xs := [v1, v2]) sp rfl hq
theorem wk_enumL {A : Addr} {us : List T} (c : T.cleans us = true) {o : Bool} : WkE K ca (Ite K A) (enumL 0 us) [(.lst o us, .ref A)] where
  goes := fun i H R hi sp => by
    rw [enumL_len] at hi
    obtain ⟨a, xs, e, ha, n, _⟩ := sp.lastq.itemsL
    cases e
    exact ⟨xs, xs[i]'(by omega), vlst ha, by simp [show i < xs.length by omega]⟩
  stops := fun H R sp => by
    rw [enumL_len]
    obtain ⟨a, xs, e, ha, n, _⟩ := sp.lastq.itemsL
    cases e
    exact ⟨xs, vlst ha, by omega⟩
  yields := fun i H x H' R hi sp y => by
    rw [enumL_len] at hi
    obtain ⟨a, xs, e, ha, n, si⟩ := sp.lastq.itemsL
    cases e
    obtain ⟨q, x0, rfl, hq, rfl, y⟩ := y
    obtain ⟨t, h1, h2⟩ := get_zip n hi (y xs (vlst ha))
    have s1 := si.holdIt c h2
    refine ⟨_, enumL_get h1, Sp.newPair (s1.addD (d := .int ((0 + i : Nat) : Int)) (v := .int (i : Nat)) ?_) hq⟩
    unfold RepD
    simp
theorem wk_enumT {A : Addr} {us : List T} {t : T} (et : tupOf t = some us) (c : T.cleans us = true) : WkE K ca (IteT K A) (enumL 0 us) [(t, .ref A)] where
  goes := fun i H R hi sp => by
    rw [enumL_len] at hi
    obtain ⟨a, xs, e, ha, n, _⟩ := sp.lastq.itemsT et
    cases e
    exact ⟨xs, xs[i]'(by omega), ha, by simp [show i < xs.length by omega]⟩
  stops := fun H R sp => by
    rw [enumL_len]
    obtain ⟨a, xs, e, ha, n, _⟩ := sp.lastq.itemsT et
    cases e
    exact ⟨xs, ha, by omega⟩
  yields := fun i H x H' R hi sp y => by
    rw [enumL_len] at hi
    obtain ⟨a, xs, e, ha, n, si⟩ := sp.lastq.itemsT et
    cases e
    obtain ⟨q, x0, rfl, hq, rfl, y⟩ := y
    obtain ⟨t, h1, h2⟩ := get_zip n hi (y xs ha)
    have s1 := si.holdIt c h2
    refine ⟨_, enumL_get h1, Sp.newPair (s1.addD (d := .int ((0 + i : Nat) : Int)) (v := .int (i : Nat)) ?_) hq⟩
    unfold RepD
    simp
theorem zipL_len : ∀ {ts us : List T}, (zipL ts us).length = min ts.length us.length
  | [], us => by simp [zipL]
  | t :: ts, [] => by simp [zipL]
  | t :: ts, u :: us => by
    simp only [zipL, List.length_cons, zipL_len (ts := ts) (us := us)]
    omega
theorem zipL_get : ∀ {ts us : List T} {i : Nat} {t u : T}, ts[i]? = some t → us[i]? = some u → (zipL ts us)[i]? = some (mkTup [t, u])
  | [], us, i, t, u, h, _ => by simp at h
  | t0 :: ts, [], i, t, u, _, h => by simp at h
  | t0 :: ts, u0 :: us, 0, t, u, h, h' => by
    simp at h h'
    subst h h'
    simp [zipL]
  | t0 :: ts, u0 :: us, i + 1, t, u, h, h' => by
    have := zipL_get (ts := ts) (us := us) (i := i) (t := t) (u := u) (by simpa using h) (by simpa using h')
    simpa [zipL] using this
theorem Sp.last2 {R : Prs} {q q' : T × V} (sp : Sp K ca H (R ++ [q, q']) []) : Sp K ca H (R ++ [q, q']) [q] ∧ Sp K ca H (R ++ [q, q']) [q'] := ⟨sp.peek (by simp), sp.peek (by simp)⟩
theorem wk_zipL {A B : Addr} {us ws : List T} (c : T.cleans us = true) (c2 : T.cleans ws = true) {o o2 : Bool} : WkE K ca (Itz K A B) (zipL us ws) [(.lst o us, .ref A), (.lst o2 ws, .ref B)] where
  goes := fun i H R hi sp => by
    rw [zipL_len] at hi
    obtain ⟨a, xs, e, ha, n, _⟩ := sp.last2.1.itemsL
    cases e
    obtain ⟨b, ys, e, hb, n2, _⟩ := sp.last2.2.itemsL
    cases e
    exact ⟨xs, ys, xs[i]'(by omega), ys[i]'(by omega), vlst ha, vlst hb, by simp [show i < xs.length by omega], by simp [show i < ys.length by omega]⟩
  stops := fun H R sp => by
    rw [zipL_len]
    obtain ⟨a, xs, e, ha, n, _⟩ := sp.last2.1.itemsL
    cases e
    obtain ⟨b, ys, e, hb, n2, _⟩ := sp.last2.2.itemsL
    cases e
    exact ⟨xs, ys, vlst ha, vlst hb, by omega⟩
  yields := fun i H x H' R hi sp y => by
    rw [zipL_len] at hi
    obtain ⟨a, xs, e, ha, n, si⟩ := sp.last2.1.itemsL
    cases e
    obtain ⟨b, ys, e, hb, n2, _⟩ := sp.last2.2.itemsL
    cases e
    obtain ⟨q, x0, y0, rfl, hq, rfl, y1, y2⟩ := y
    obtain ⟨t, h1, h2⟩ := get_zip n (by omega) (y1 xs (vlst ha))
    have s1 := si.holdIt c h2
    have sj := (s1.peek (p := (.lst o2 ws, .ref B)) (by simp)).itemsL
    obtain ⟨b', ys', e, hb', n2', sj⟩ := sj
    cases e
    obtain ⟨t2, h3, h4⟩ := get_zip n2' (by omega) (y2 ys' (vlst hb'))
    have s2 := sj.holdIt c2 h4
    exact ⟨_, zipL_get h1 h3, Sp.newPair (s2.perm (.swap _ _ _)) hq⟩
theorem wk_zipT {A B : Addr} {us ws : List T} {t t2 : T} (et : tupOf t = some us) (et2 : tupOf t2 = some ws) (c : T.cleans us = true) (c2 : T.cleans ws = true) : WkE K ca (RZ.ItzT K A B) (zipL us ws) [(t, .ref A), (t2, .ref B)] where
  goes := fun i H R hi sp => by
    rw [zipL_len] at hi
    obtain ⟨a, xs, e, ha, n, _⟩ := sp.last2.1.itemsT et
    cases e
    obtain ⟨b, ys, e, hb, n2, _⟩ := sp.last2.2.itemsT et2
    cases e
    exact ⟨xs, ys, xs[i]'(by omega), ys[i]'(by omega), ha, hb, by simp [show i < xs.length by omega], by simp [show i < ys.length by omega]⟩
  stops := fun H R sp => by
    rw [zipL_len]
    obtain ⟨a, xs, e, ha, n, _⟩ := sp.last2.1.itemsT et
    cases e
    obtain ⟨b, ys, e, hb, n2, _⟩ := sp.last2.2.itemsT et2
    cases e
    exact ⟨xs, ys, ha, hb, by omega⟩
  yields := fun i H x H' R hi sp y => by
    rw [zipL_len] at hi
    obtain ⟨a, xs, e, ha, n, si⟩ := sp.last2.1.itemsT et
    cases e
    obtain ⟨q, x0, y0, rfl, hq, rfl, y1, y2⟩ := y
    obtain ⟨t, h1, h2⟩ := get_zip n (by omega) (y1 xs ha)
    have s1 := si.holdIt c h2
    obtain ⟨b, ys, e, hb, n2, sj⟩ := (s1.peek (p := (t2, .ref B)) (by simp)).itemsT et2
    cases e
    obtain ⟨t3, h3, h4⟩ := get_zip n2 (by omega) (y2 ys hb)
    have s2 := sj.holdIt c2 h4
    exact ⟨_, zipL_get h1 h3, Sp.newPair (s2.perm (.swap _ _ _)) hq⟩
/-! ### iterators -/
def tI (K : PySem.W.Frag) (ca : Nat → Addr) (W : WX) (m : Env → Res (List T)) : TI := fun σ H R => ∃ τ Θ, Ow K ca τ σ Θ H ∧
  Out (m τ) (fun items τ' => ∀ J Θ' H', Fits τ' σ → Sp K ca H' (prs τ' σ ++ (Θ' ++ Θ)) [] → WkE K ca J items Θ' → R J H') (EXC K ca W σ Θ)
theorem PI.imp {t t' : TI} (h : PI X tg ea t) (f : ∀ σ H R, t' σ H R → t σ H R) : PI X tg ea t' := ⟨fun pins s σ H R I q => h.run pins s σ H R I (f σ H R q)⟩
/-- a list, a tuple, a text -/
def iSeq (K : PySem.W.Frag) (te : TE) : TI := fun σ H R => te σ H fun x H1 => (∃ a xs, x = .ref a ∧ SqL K H1 a xs ∧ R (Itl K a) H1) ∨ (∃ a xs, x = .ref a ∧ SqT K H1 a xs ∧ R (Itt K a) H1) ∨ ∃ z, x = .str z ∧ R (Its z) H1
theorem pi_seq {te : TE} (hl : PE X ea te) : PI X tg ea (iSeq X.K te) := by
  refine ⟨fun pins s σ H R I h => ?_⟩
  refine thn (hl.run pins s σ H _ I h) fun v s1 ⟨x, H1, I1, r1, q1⟩ => ?_
  rcases q1 with ⟨a, xs, rfl, hq, q⟩ | ⟨a, xs, rfl, hq, q⟩ | ⟨z, rfl, q⟩
  · cases r1
    obtain ⟨its, rv, p, hz⟩ := I1.list hq
    refine wpAny_pyIter_list p.isList ?_
    exact pi_one (tk := s1.toks) I1 _ (turn_list a _) ⟨_, Heap.get?_push_size _ rfl, rfl, rfl⟩ q
  · cases r1
    obtain ⟨its, rv, p, hz⟩ := I1.tuple hq
    refine wpAny_pyIter_tuple (show s1.heap.IsTuple a its.toArray from p) ?_
    exact pi_one (tk := s1.toks) I1 _ (turn_tuple a _) ⟨_, Heap.get?_push_size _ rfl, rfl, rfl⟩ q
  · obtain ⟨t, rfl⟩ := r1
    cases ha : z.cps.all (· < 128)
    · exact wpAny_pyIter_wide ha (pi_one (tk := s1.toks) I1 _ (turn_str _ z t "str_iterator" (.inr rfl)) ⟨_, Heap.get?_push_size _ rfl, rfl, rfl⟩ q)
    · exact wpAny_pyIter_ascii ha (pi_one (tk := s1.toks) I1 _ (turn_str _ z t "str_ascii_iterator" (.inl rfl)) ⟨_, Heap.get?_push_size _ rfl, rfl, rfl⟩ q)
theorem chars_clean : ∀ l : List Nat, T.cleans (l.map fun c => T.im (.str ⟨#[c]⟩)) = true
  | [] => rfl
  | c :: l => by simp [T.cleans, T.clean, chars_clean l]
theorem frz_items {ts : List T} (h : seqF (T.frz t) = some ts) : T.cleans ts = true := by
  have hc := T.frz_clean t
  unfold seqF at h
  split at h
  · cases h; simp
  · rename_i e; cases h; rw [e] at hc; simpa [T.clean] using hc
  · rename_i o _ e; cases h; rw [e] at hc
    have : o = false ∧ T.cleans ts = true := by simpa [T.clean] using hc
    exact this.2
  · cases h; exact chars_clean _
  · cases h
theorem frz_itemsLT {ts : List T} (h : seqLT (T.frz t) = some ts) : T.cleans ts = true := by
  have hc := T.frz_clean t
  unfold seqLT at h
  split at h
  · cases h; simp
  · rename_i e; cases h; rw [e] at hc; simpa [T.clean] using hc
  · rename_i o _ e; cases h; rw [e] at hc
    have : o = false ∧ T.cleans ts = true := by simpa [T.clean] using hc
    exact this.2
  · cases h
theorem Got.frzd (g : Got K ca false τ σ Θ H t v) : Sp K ca H (prs τ σ ++ ([(T.frz t, v)] ++ Θ)) [] := (g.keep.frz).perm List.perm_middle.symm
theorem I_e (h : PE X ea (tE X.K ca W false (evX cl false a))) : PI X tg ea (tI X.K ca W (evI cl (.e a))) := by
  refine PI.imp (pi_seq h) fun σ H R ⟨τ, Θ, o, z⟩ => ?_
  simp only [evI] at z
  refine tE.use o (Out.bind z) fun t τ' v H' p g => ?_
  obtain ⟨ts, e, p⟩ := Out.ret p
  have c := frz_items e
  have sp := g.frzd
  have q := sp.peek (p := (T.frz t, v)) (by simp)
  cases ht : T.frz t with
  | im d =>
    rw [ht] at e sp q
    cases d with
    | tup ds =>
      obtain ⟨A, xs, rfl, ha, _⟩ := q.itemsT (ts := _) rfl
      exact .inr (.inl ⟨A, xs, rfl, ha, p _ [(.im (.tup ds), .ref A)] _ g.fit sp (wk_tup (t := .im (.tup ds)) e c)⟩)
    | str s =>
      obtain rfl := q.str
      cases e
      exact .inr (.inr ⟨s, rfl, p _ [(.im (.str s), .str s)] _ g.fit sp wk_str⟩)
    | _ => cases e
  | tup us =>
    rw [ht] at e sp q
    obtain ⟨A, xs, rfl, ha, _⟩ := q.itemsT (ts := _) rfl
    exact .inr (.inl ⟨A, xs, rfl, ha, p _ [(.tup us, .ref A)] _ g.fit sp (wk_tup (t := .tup us) e c)⟩)
  | lst o us =>
    rw [ht] at e sp q
    cases e
    obtain ⟨A, xs, rfl, ha, _⟩ := q.itemsL
    exact .inl ⟨A, xs, rfl, vlst ha, p _ [(.lst o ts, .ref A)] _ g.fit sp (wk_list c)⟩
  | _ => rw [ht] at e; cases e
theorem I_rg1 (hg : Gl X "range") (hm : X.mg "range" = none) (h : PE X ea (tE X.K ca W true (evX cl true a))) (hs : starEach [ea] X.env = (false, eval ea X.env) :: starEach [] X.env) : PI X tg (.Call (.Name "range" p1) [ea] [] pos) (tI X.K ca W (evI cl (.rg1 a))) := by
  refine PI.imp (pi_range1 hg hm (pa_cons h pa_nil hs) hs) fun σ H R ⟨τ, Θ, o, z⟩ => ?_
  simp only [evI] at z
  refine tE.use o (Out.bind z) fun t τ' v H' p g => ?_
  split at p
  · rename_i j ej
    split at p
    · rename_i hr
      obtain rfl := intOf_some ej
      obtain rfl := g.look.int
      exact ⟨j, rfl, (rgo hr).1, (rgo hr).2, p _ [] _ g.fit g.base.sp wk_rng⟩
    · exact p.elim
  · exact p.elim
theorem two_gen {α : Type} {k : T × T → Env → Res α} {P : α → Env → Prop} {Q : V → V → Hp → Prop} (o : Ow K ca τ σ Θ H) (z : Out ((two a (evX cl false a) (evX cl true b) τ).bind k) P (EXC K ca W σ Θ))
    (f : ∀ ta tb τ' Θ' x y H2, Out (k (ta, tb) τ') P (EXC K ca W σ Θ) → Fits τ' σ → Sp K ca H2 (prs τ' σ ++ (Θ' ++ Θ)) [(ta, x), (tb, y)] → Q x y H2) :
    firstTE K ca W cl a σ H fun x H1 => tE K ca W true (evX cl true b) σ H1 fun y H2 => Q x y H2 := by
  unfold firstTE
  cases hv : isV a with
  | some i =>
    obtain rfl := isV_some hv
    simp only [two_v] at z
    cases ht : τ.at i with
    | none => rw [ht] at z; exact z.elim
    | some t0 =>
      rw [ht] at z
      show tVar i σ H fun x H1 => tE K ca W true (evX cl true b) σ H1 fun y H2 => Q x y H2
      refine L_late o.fit ht fun v hv => tE.use o (Out.bind (Out.bind z)) fun tb τ1 vb H1 p g => ?_
      obtain ⟨⟨ta, tb'⟩, e1, p⟩ := Out.ret p
      obtain ⟨ta', e2, e3⟩ := Option.map_eq_some_iff.mp e1
      cases e3
      exact f ta tb τ1 [] _ _ _ p g.fit (g.base.look e2 hv g.look)
  | none =>
    simp only [two_n hv] at z
    show tE K ca W false (evX cl false a) σ H fun x H1 => tE K ca W true (evX cl true b) σ H1 fun y H2 => Q x y H2
    refine tE.use o (Out.bind (Out.bind z)) fun ta τ1 va H1 p g => ?_
    refine tE.use1 (Θ' := [(ta, va)]) g.ow (Out.bind p) fun tb τ2 vb H2 p2 g2 => ?_
    exact f ta tb τ2 [(ta, va)] _ _ _ p2 g2.fit (g2.look.peek (by simp))
theorem I_rg2 (hg : Gl X "range") (hm : X.mg "range" = none) (ha : PE X ea (firstTE X.K ca W cl a)) (h : PE X eb (tE X.K ca W true (evX cl true b))) (hs : starEach [ea, eb] X.env = [(false, eval ea X.env), (false, eval eb X.env)]) (hs2 : starEach [eb] X.env = [(false, eval eb X.env)]) :
    PI X tg (.Call (.Name "range" p1) [ea, eb] [] pos) (tI X.K ca W (evI cl (.rg2 a b))) := by
  refine PI.imp (pi_range2 hg hm (pa_cons ha (pa_cons h pa_nil hs2) (by rw [hs, hs2])) hs hs2) fun σ H R ⟨τ, Θ, o, z⟩ => ?_
  simp only [evI] at z
  refine two_gen (Q := fun x y H2 => ∃ i j : Int, [x, y] = [.int i, .int j] ∧ (-(2 ^ 62) ≤ i ∧ i < 2 ^ 62 ∧ -(2 ^ 62) ≤ j ∧ j < 2 ^ 62) ∧ R (Itr i (j - i).toNat) H2) o z fun ta tb τ' Θ' x y H2 p f sp => ?_
  simp only at p
  split at p
  · rename_i i j ei ej
    split at p
    · rename_i hr
      simp only [Bool.and_eq_true] at hr
      obtain rfl := intOf_some ei
      obtain rfl := intOf_some ej
      obtain rfl := sp.int
      obtain rfl := sp.snd.int
      exact ⟨i, j, rfl, ⟨(rgo hr.1).1, (rgo hr.1).2, (rgo hr.2).1, (rgo hr.2).2⟩, p _ Θ' _ f sp.noq wk_rng⟩
    · exact p.elim
  · exact p.elim
theorem tupOf_frz {us : List T} (h : tupOf (T.frz t) = some us) : T.cleans us = true := by
  have hc := T.frz_clean t
  unfold tupOf at h
  split at h
  · cases h; simp
  · rename_i e; cases h; rw [e] at hc; simpa [T.clean] using hc
  · cases h
theorem lstOf_frz {us : List T} (h : lstOf (T.frz t) = some us) : T.cleans us = true ∧ ∃ o, T.frz t = .lst o us := by
  have hc := T.frz_clean t
  unfold lstOf at h
  split at h
  · rename_i o _ e
    cases h
    rw [e] at hc
    have : o = false ∧ T.cleans us = true := by simpa [T.clean] using hc
    exact ⟨this.2, o, e⟩
  · cases h
theorem I_zip {elts : List Expr} {kk : Nat} (hg : Gl X "zip") (hm : X.mg "zip" = none) (ha : PE X ea (tE X.K ca W false (evX cl false a))) (hb : PE X eb (tE X.K ca W false (evX cl false b)))
    (hs : starEach [ea, eb] X.env = (false, eval ea X.env) :: starEach [eb] X.env) (hs2 : starEach [eb] X.env = (false, eval eb X.env) :: starEach [] X.env) (hpl : (backTo pos (starEach [eb] X.env)).any (·.1) = false) :
    PI X (.Tuple elts kk p2) (.Call (.Name "zip" p1) [ea, eb] [] pos) (tI X.K ca W (evI cl (.zip a b))) := by
  refine PI.imp (RZ.pi_zipA hg hm (pa_cons ha (pa_cons hb pa_nil hs2) hs) hs hpl) fun σ H R ⟨τ, Θ, o, z⟩ => ?_
  simp only [evI] at z
  refine tE.use o (Out.bind z) fun ta τ1 va H1 p g => ?_
  refine tE.use1 (Θ' := [(ta, va)]) g.ow (Out.bind p) fun tb τ2 vb H2 p2 g2 => ?_
  have sp : Sp X.K ca H2 (prs τ2 σ ++ ([(T.frz ta, va), (T.frz tb, vb)] ++ Θ)) [] := by
    have s1 := g2.keep.frz
    have s2 : Sp X.K ca H2 ((ta, va) :: ((T.frz tb, vb) :: (prs τ2 σ ++ Θ))) [] := by
      refine s1.perm ?_
      have := List.perm_middle (a := (ta, va)) (l₁ := (T.frz tb, vb) :: prs τ2 σ) (l₂ := Θ)
      simpa using this
    have s3 := s2.frz
    refine s3.perm ?_
    have := perm3 (A := [(T.frz ta, va), (T.frz tb, vb)]) (B := prs τ2 σ) (C := Θ)
    simpa using this
  have q1 := sp.peek (p := (T.frz ta, va)) (by simp)
  have q2 := sp.peek (p := (T.frz tb, vb)) (by simp)
  split at p2
  · rename_i us ws e1 e2
    obtain ⟨c1, o1, f1⟩ := lstOf_frz e1
    obtain ⟨c2, o2, f2⟩ := lstOf_frz e2
    rw [f1] at q1 sp
    rw [f2] at q2 sp
    obtain ⟨A, xs, rfl, hA, _⟩ := q1.itemsL
    obtain ⟨B, ys, rfl, hB, _⟩ := q2.itemsL
    exact ⟨A, B, xs, ys, rfl, .inl ⟨vlst hA, vlst hB, p2 _ [(.lst o1 us, .ref A), (.lst o2 ws, .ref B)] _ g2.fit sp (wk_zipL c1 c2)⟩⟩
  · split at p2
    · rename_i us ws e1 e2
      have c1 := tupOf_frz e1
      have c2 := tupOf_frz e2
      obtain ⟨A, xs, rfl, hA, _⟩ := q1.itemsT e1
      obtain ⟨B, ys, rfl, hB, _⟩ := q2.itemsT e2
      exact ⟨A, B, xs, ys, rfl, .inr ⟨hA, hB, p2 _ [(T.frz ta, .ref A), (T.frz tb, .ref B)] _ g2.fit sp (wk_zipT e1 e2 c1 c2)⟩⟩
    · exact p2.elim
theorem I_enum {elts : List Expr} {kk : Nat} (hg : Gl X "enumerate") (hm : X.mg "enumerate" = none) (h : PE X ea (tE X.K ca W false (evX cl false a))) (hs : starEach [ea] X.env = (false, eval ea X.env) :: starEach [] X.env) : PI X (.Tuple elts kk p2) (.Call (.Name "enumerate" p1) [ea] [] pos) (tI X.K ca W (evI cl (.enum a))) := by
  refine PI.imp (pi_enumA hg hm (pa_cons h pa_nil hs) hs) fun σ H R ⟨τ, Θ, o, z⟩ => ?_
  simp only [evI] at z
  refine tE.use o (Out.bind z) fun t τ' v H' p g => ?_
  obtain ⟨ts0, e0, p⟩ := Out.ret p
  obtain ⟨ts, e, rfl⟩ := Option.map_eq_some_iff.mp e0
  have c := frz_itemsLT e
  have sp := g.frzd
  have q := sp.peek (p := (T.frz t, v)) (by simp)
  cases ht : T.frz t with
  | im d =>
    rw [ht] at e sp q
    cases d with
    | tup ds =>
      obtain ⟨A, xs, rfl, ha, _⟩ := q.itemsT (ts := _) rfl
      exact ⟨A, xs, rfl, .inr ⟨ha, p _ [(.im (.tup ds), .ref A)] _ g.fit sp (wk_enumT (t := .im (.tup ds)) e c)⟩⟩
    | _ => cases e
  | tup us =>
    rw [ht] at e sp q
    obtain ⟨A, xs, rfl, ha, _⟩ := q.itemsT (ts := _) rfl
    exact ⟨A, xs, rfl, .inr ⟨ha, p _ [(.tup us, .ref A)] _ g.fit sp (wk_enumT (t := .tup us) e c)⟩⟩
  | lst o us =>
    rw [ht] at e sp q
    cases e
    obtain ⟨A, xs, rfl, ha, _⟩ := q.itemsL
    exact ⟨A, xs, rfl, .inl ⟨vlst ha, p _ [(.lst o ts, .ref A)] _ g.fit sp (wk_enumL c)⟩⟩
  | _ => rw [ht] at e; cases e
end
end EV
set_option Elab.async false
set_option linter.all false
set_option maxRecDepth 100000
set_option maxHeartbeats 1000000
namespace EV
open PySem PySem.Spec L2
open PyProof.Rows hiding St
section
variable {X : Cx} {ca : Nat → Addr} {W : WX} {pk : Bool} {cl : Call} {pos p p1 p2 p3 p4 apos cpos : Pos} {ea eb ec tg : Expr} {a b c : E} {n : Nat}
variable {τ τ' : Env} {σ : L2.St} {Θ Θ' : Prs} {H H' : Hp} {t u : T} {v x : V} {K : PySem.W.Frag} {es : List Expr} {r : Es}
/-! ### targets -/
def tgs : Tg → List Nat
  | .n i => [i]
  | .tup a b => tgs a ++ tgs b
  | .tup3 a b c => tgs a ++ (tgs b ++ tgs c)
def tG (K : PySem.W.Frag) (ca : Nat → Addr) (g : Tg) : TG := fun v σ H Q => ∃ t τ τ' Θ, Fits τ σ ∧ Sp K ca H ((t, v) :: (prs τ σ ++ Θ)) [] ∧ asgT g t τ = some τ' ∧
  ∀ σ', Fits τ' σ' → Sp K ca H (prs τ' σ' ++ Θ) [] → (∀ j, j ∉ tgs g → σ'[j]? = σ[j]?) → σ'.length = σ.length → Q σ' H
theorem PG.imp {e : Expr} {t t' : TG} (h : PG X e t) (f : ∀ v σ H Q, t' v σ H Q → t v σ H Q) : PG X e t' := ⟨fun pins s σ H v u Q I r q => h.run pins s σ H v u Q I r (f v σ H Q q)⟩
theorem set_gn {i j : Nat} {o : Option V} (h : j ∉ [i]) : (σ.set i o)[j]? = σ[j]? := by
  rw [List.getElem?_set_ne (fun z => h (by simp [z]))]
theorem prs_slot (f : Fits τ σ) {i : Nat} (hi : i < τ.length) : (prs (τ.set i (some t)) (σ.set i (some v))).Perm ((t, v) :: prs (τ.set i none) σ) := prs_in hi f.len
theorem Sp.dropSlot {R : Prs} (f : Fits τ σ) {i : Nat} (sp : Sp K ca H (R ++ (prs τ σ ++ Θ)) []) : Sp K ca H (R ++ (prs (τ.set i none) σ ++ Θ)) [] := by
  cases h : τ.at i with
  | none => rw [prs_none h]; exact sp
  | some t =>
    obtain ⟨v, hv⟩ := f.has i t h
    have p := ((prs_out h hv).append_right Θ).append_left R
    refine Sp.drop1 (p := (t, v)) (sp.perm (p.trans ?_))
    exact List.perm_middle
theorem G_n {i : Nat} {e : Expr} (h : PG X e (gName i)) : PG X e (tG X.K ca (.n i)) := by
  refine PG.imp h fun v σ H Q ⟨t, τ, τ', Θ, f, sp, e, k⟩ => ?_
  simp only [asgT] at e
  split at e
  · rename_i hi
    cases e
    refine k (σ.set i (some v)) (f.setV (by rw [← f.len]; exact hi)) ?_ (fun j hj => set_gn hj) (by simp)
    have s1 : Sp X.K ca H ([(t, v)] ++ (prs (τ.set i none) σ ++ Θ)) [] := Sp.dropSlot (R := [(t, v)]) f sp
    exact s1.perm ((prs_slot f hi).symm.append_right Θ)
  · cases e
theorem G_tup {ga gb : Tg} {e1 e2 : Expr} {k1 : Nat} (hc : X.calm = true) (ha : PG X e1 (tG X.K ca ga)) (hb : PG X e2 (tG X.K ca gb)) (h1 : (assignEach [e1, e2] X.env).map (·.2) = assign e1 X.env :: (assignEach [e2] X.env).map (·.2)) (h2 : (assignEach [e2] X.env).map (·.2) = assign e2 X.env :: (assignEach [] X.env).map (·.2))
    (hn : (assignEach [e1, e2] X.env).length = 2) (hst : (assignEach [e1, e2] X.env).findIdx? (·.1) = none) : PG X (.Tuple [e1, e2] k1 pos) (tG X.K ca (.tup ga gb)) := by
  refine PG.imp (pg_tup hc (pgs_cons ha (pgs_cons hb pgs_nil h2) h1) hn hst) fun v σ H Q ⟨t, τ, τ', Θ, f, sp, e, k⟩ => ?_
  simp only [asgT] at e
  split at e
  · rename_i x y et
    obtain ⟨τ1, e1, e2⟩ := Option.bind_eq_some_iff.mp e
    obtain ⟨A, xs, rfl, hA, n, s1⟩ := sp.openT et
    obtain ⟨v1, v2, rfl⟩ := len2 (by simpa using n)
    refine ⟨A, [v1, v2], rfl, hA, rfl, v1, [v2], rfl, x, τ, τ1, (y, v2) :: Θ, f, ?_, e1, fun σ1 f1 s2 ag1 l1 => ⟨v2, [], rfl, y, τ1, τ', Θ, f1, ?_, e2, fun σ2 f2 s3 ag2 l2 => ⟨rfl, ?_⟩⟩⟩
    · have s1' : Sp X.K ca H ((x, v1) :: (y, v2) :: (prs τ σ ++ Θ)) [] := s1
      exact s1'.perm (List.Perm.cons _ List.perm_middle.symm)
    · exact s2.perm List.perm_middle
    · refine k σ2 f2 s3 (fun j hj => ?_) (by rw [l2, l1])
      have hj' : j ∉ tgs ga ∧ j ∉ tgs gb := by simpa [tgs] using hj
      rw [ag2 j hj'.2, ag1 j hj'.1]
  · cases e
theorem G_tup3 {ga gb gc : Tg} {e1 e2 e3 : Expr} {k1 : Nat} (hc : X.calm = true) (ha : PG X e1 (tG X.K ca ga)) (hb : PG X e2 (tG X.K ca gb)) (hc3 : PG X e3 (tG X.K ca gc)) (h1 : (assignEach [e1, e2, e3] X.env).map (·.2) = assign e1 X.env :: (assignEach [e2, e3] X.env).map (·.2))
    (h2 : (assignEach [e2, e3] X.env).map (·.2) = assign e2 X.env :: (assignEach [e3] X.env).map (·.2)) (h3 : (assignEach [e3] X.env).map (·.2) = assign e3 X.env :: (assignEach [] X.env).map (·.2))
    (hn : (assignEach [e1, e2, e3] X.env).length = 3) (hst : (assignEach [e1, e2, e3] X.env).findIdx? (·.1) = none) : PG X (.Tuple [e1, e2, e3] k1 pos) (tG X.K ca (.tup3 ga gb gc)) := by
  refine PG.imp (pg_tup hc (pgs_cons ha (pgs_cons hb (pgs_cons hc3 pgs_nil h3) h2) h1) hn hst) fun v σ H Q ⟨t, τ, τ', Θ, f, sp, e, k⟩ => ?_
  simp only [asgT] at e
  split at e
  · rename_i x y z et
    obtain ⟨τ2, e12, e3⟩ := Option.bind_eq_some_iff.mp e
    obtain ⟨τ1, e1, e2⟩ := Option.bind_eq_some_iff.mp e12
    obtain ⟨A, xs, rfl, hA, n, s1⟩ := sp.openT et
    obtain ⟨v1, v2, v3, rfl⟩ : ∃ v1 v2 v3, xs = [v1, v2, v3] := by
      match xs, n with
      | [a, b, c], _ => exact ⟨a, b, c, rfl⟩
      | [], n => simp at n
      | [_], n => simp at n
      | [_, _], n => simp at n
      | _ :: _ :: _ :: _ :: _, n => simp at n
    have s1' : Sp X.K ca H ((x, v1) :: (y, v2) :: (z, v3) :: (prs τ σ ++ Θ)) [] := s1
    refine ⟨A, [v1, v2, v3], rfl, hA, rfl, v1, [v2, v3], rfl, x, τ, τ1, (y, v2) :: (z, v3) :: Θ, f, ?_, e1, fun σ1 f1 s2 ag1 l1 => ⟨v2, [v3], rfl, y, τ1, τ2, (z, v3) :: Θ, f1, ?_, e2, fun σ2 f2 s3 ag2 l2 => ⟨v3, [], rfl, z, τ2, τ', Θ, f2, ?_, e3, fun σ3 f3 s4 ag3 l3 => ⟨rfl, ?_⟩⟩⟩⟩
    · refine s1'.perm (List.Perm.cons _ ?_)
      have := perm3 (A := [(y, v2), (z, v3)]) (B := prs τ σ) (C := Θ)
      simpa using this
    · exact s2.perm List.perm_middle
    · exact s3.perm List.perm_middle
    · refine k σ3 f3 s4 (fun j hj => ?_) (by rw [l3, l2, l1])
      have hj' : j ∉ tgs ga ∧ j ∉ tgs gb ∧ j ∉ tgs gc := by simpa [tgs] using hj
      rw [ag3 j hj'.2.2, ag2 j hj'.2.1, ag1 j hj'.1]
  · cases e
/-! ### a comprehension's own slots -/
theorem wip_clr : ∀ {own : List Nat} {τ : Env}, wip own τ = clr own τ
  | [], _ => rfl
  | i :: own, τ => by
    show wip own (τ.set i none) = clr own (τ.set i none)
    exact wip_clr
theorem prs_congr : ∀ {τ : Env} {σ σ' : L2.St}, σ.length = σ'.length → (∀ i t, τ.at i = some t → σ[i]? = σ'[i]?) → prs τ σ = prs τ σ'
  | [], σ, σ', _, _ => by simp [prs]
  | o :: τ, [], σ', n, _ => by
    have : σ' = [] := by cases σ' <;> simp at n ⊢
    rw [this]
  | o :: τ, x :: σ, [], n, _ => by simp at n
  | o :: τ, x :: σ, y :: σ', n, h => by
    have ih := prs_congr (τ := τ) (σ := σ) (σ' := σ') (by simpa using n) fun i t e => by simpa using h (i + 1) t (by rw [at_consS]; exact e)
    cases o with
    | none => exact ih
    | some t =>
      have e : x = y := by simpa using h 0 t rfl
      subst e
      cases x with
      | none => exact ih
      | some v => exact congrArg ((t, v) :: ·) ih
theorem wipe_get {i : Nat} : ∀ {own : List Nat}, i ∉ own → (wipe σ own)[i]? = σ[i]?
  | [], _ => rfl
  | j :: own, h => by
    show ((wipe σ own).set j none)[i]? = _
    rw [List.getElem?_set_ne (fun z => h (by simp [z])), wipe_get (fun z => h (by simp [z]))]
theorem clr_in {i : Nat} : ∀ {own : List Nat} {τ : Env}, i ∈ own → (clr own τ).at i = none
  | [], _, h => by simp at h
  | j :: own, τ, h => by
    show (clr own (τ.set j none)).at i = none
    by_cases hi : i ∈ own
    · exact clr_in hi
    · rw [clr_at hi]
      have : i = j := by
        rcases List.mem_cons.mp h with z | z
        · exact z
        · exact absurd z hi
      subst this
      rw [at_set]
      by_cases hl : i < τ.length
      · simp [hl]
      · simp [hl]
        unfold Env.at
        simp [List.getElem?_eq_none_iff.mpr (by omega : τ.length ≤ i)]
theorem fits_clr (f : Fits τ σ) {own : List Nat} : Fits (clr own τ) (wipe σ own) := by
  refine ⟨by rw [clr_len, wipe_length, f.len], fun i t h => ?_⟩
  by_cases hi : i ∈ own
  · rw [clr_in hi] at h; cases h
  · rw [clr_at hi] at h
    rw [wipe_get hi]
    exact f.has i t h
theorem prs_wipe {own : List Nat} (n : τ.length = σ.length) : prs (clr own τ) (wipe σ own) = prs (clr own τ) σ := by
  refine prs_congr (wipe_length σ own) fun i t h => ?_
  by_cases hi : i ∈ own
  · rw [clr_in hi] at h; cases h
  · exact wipe_get hi
theorem fits_clr0 (f : Fits τ σ) : ∀ {own : List Nat}, Fits (clr own τ) σ := fun {own} => by
  induction own generalizing τ with
  | nil => exact f
  | cons i own ih => exact ih (f.setN i)
theorem Sp.dropOwn {R : Prs} : ∀ {own : List Nat} {τ : Env}, Fits τ σ → Sp K ca H (R ++ (prs τ σ ++ Θ)) [] → Sp K ca H (R ++ (prs (clr own τ) σ ++ Θ)) []
  | [], _, _, sp => sp
  | i :: own, τ, f, sp => Sp.dropOwn (own := own) (f.setN i) (sp.dropSlot f)
theorem unwip_skip {own : List Nat} : ∀ {τ τ' : Env} {i : Nat} {o : Option T}, i ∉ own → unwip own (τ.set i o) τ' = unwip own τ τ' := by
  induction own with
  | nil => intro τ τ' i o _; rfl
  | cons j own ih =>
    intro τ τ' i o h
    show unwip own (τ.set i o) (τ'.set j (Env.at (τ.set i o) j)) = unwip own τ (τ'.set j (τ.at j))
    rw [at_set, if_neg (fun z => h (by simp [z.1])), ih fun z => h (by simp [z])]
theorem unwip_set {own : List Nat} : ∀ {τ τ' : Env} {i : Nat} {o : Option T}, i ∉ own → unwip own τ (τ'.set i o) = (unwip own τ τ').set i o := by
  induction own with
  | nil => intro τ τ' i o _; rfl
  | cons j own ih =>
    intro τ τ' i o h
    show unwip own τ ((τ'.set i o).set j (τ.at j)) = (unwip own τ (τ'.set j (τ.at j))).set i o
    have hne : i ≠ j := fun z => h (by simp [z])
    rw [List.set_comm _ _ hne, ih fun z => h (by simp [z])]
theorem unwip_len : ∀ {own : List Nat} {τ τ' : Env}, (unwip own τ τ').length = τ'.length
  | [], _, _ => rfl
  | j :: own, τ, τ' => by
    show (unwip own τ (τ'.set j (τ.at j))).length = _
    rw [unwip_len]
    simp
theorem own_out : ∀ {own : List Nat} {τ : Env} {Θ : Prs}, own.Nodup → Fits τ σ → Sp K ca H (prs τ σ ++ Θ) [] → ∃ op : Prs, Sp K ca H (prs (clr own τ) σ ++ (op ++ Θ)) [] ∧
    ∀ (τ2 : Env) (H2 : Hp) (R : Prs), Fits (clr own τ2) σ → τ2.length = τ.length → Sp K ca H2 (R ++ (prs (clr own τ2) σ ++ (op ++ Θ))) [] → Fits (unwip own τ τ2) σ ∧ Sp K ca H2 (R ++ (prs (unwip own τ τ2) σ ++ Θ)) []
  | [], τ, Θ, _, f, sp => ⟨[], sp, fun τ2 H2 R f2 n s2 => ⟨f2, s2⟩⟩
  | i :: own, τ, Θ, nd, f, sp => by
    obtain ⟨hi, nd⟩ := List.nodup_cons.mp nd
    cases h : τ.at i with
    | none =>
      have e0 : τ.set i none = τ := prs_none h
      obtain ⟨op, s1, k⟩ := own_out (own := own) nd f sp
      refine ⟨op, by show Sp K ca H (prs (clr own (τ.set i none)) σ ++ _) []; rw [e0]; exact s1, fun τ2 H2 R f2 n s2 => ?_⟩
      show Fits (unwip own τ (τ2.set i (τ.at i))) σ ∧ Sp K ca H2 (R ++ (prs (unwip own τ (τ2.set i (τ.at i))) σ ++ Θ)) []
      rw [h]
      exact k (τ2.set i none) H2 R f2 (by simpa using n) s2
    | some t =>
      obtain ⟨v, hv⟩ := f.has i t h
      have s0 : Sp K ca H (prs (τ.set i none) σ ++ ((t, v) :: Θ)) [] := sp.perm (((prs_out h hv).append_right Θ).trans List.perm_middle.symm)
      obtain ⟨op, s1, k⟩ := own_out (own := own) nd (f.setN i) s0
      have e1 : op ++ ((t, v) :: Θ) = (op ++ [(t, v)]) ++ Θ := by simp
      refine ⟨op ++ [(t, v)], by rw [← e1]; exact s1, fun τ2 H2 R f2 n s2 => ?_⟩
      rw [← e1] at s2
      obtain ⟨f3, s3⟩ := k (τ2.set i none) H2 R f2 (by simpa using n) s2
      rw [unwip_skip hi] at f3 s3
      show Fits (unwip own τ (τ2.set i (τ.at i))) σ ∧ Sp K ca H2 (R ++ (prs (unwip own τ (τ2.set i (τ.at i))) σ ++ Θ)) []
      rw [h]
      rw [unwip_set hi] at f3 s3 ⊢
      have hl : i < (unwip own τ τ2).length := by
        rw [unwip_len, n]
        exact at_lt h
      refine ⟨?_, ?_⟩
      · have := f3.setS (i := i) (o := some t) hv
        rwa [List.set_set] at this
      · have p1 := ((prs_put (t := t) hv hl).append_right Θ).append_left R
        have p2 : (R ++ (prs ((unwip own τ τ2).set i none) σ ++ (t, v) :: Θ)).Perm (R ++ ((t, v) :: prs ((unwip own τ τ2).set i none) σ ++ Θ)) := List.Perm.append_left R List.perm_middle
        exact s3.perm (p2.trans p1.symm)
end
end EV
set_option Elab.async false
set_option linter.all false
set_option maxRecDepth 100000
set_option maxHeartbeats 1000000
namespace EV
open PySem PySem.Spec L2
open PyProof.Rows hiding St
section
variable {X : Cx} {ca : Nat → Addr} {W : WX} {pk : Bool} {cl : Call} {pos p p1 p2 p3 p4 apos cpos : Pos} {ea eb ec tg iter elt kx vx : Expr} {a b c : E} {n : Nat}
variable {τ τ' : Env} {σ σ' : L2.St} {Θ Θ' : Prs} {H H' : Hp} {t u : T} {v x : V} {K : PySem.W.Frag} {es : List Expr} {r : Es}
def WF : WX := fun _ _ _ _ => False
theorem takesF {X : Cx} : Takes X WF := fun u s' ⟨a, B, sI, pins, σ, H, cls, d, e, I, nb, up, sky, na, os, ag, w⟩ => w.elim
theorem noExc_out {α : Type} {r : Res α} {P : α → Env → Prop} {EX : Nat → T → Env → Prop} (h : Out (noExc r) P EX) : Out r P fun _ _ _ => False := by
  cases r <;> exact h
theorem Out.noX {α : Type} {r : Res α} {P : α → Env → Prop} {EX : Nat → T → Env → Prop} (h : Out r P fun _ _ _ => False) : Out r P EX := h.imp (fun _ _ z => z) fun _ _ _ z => z.elim
theorem wipe_in : ∀ {own : List Nat} {i : Nat}, i ∈ own → (wipe σ own)[i]? = if i < σ.length then some none else none
  | [], _, h => by simp at h
  | j :: own, i, h => by
    show ((wipe σ own).set j none)[i]? = _
    rw [List.getElem?_set]
    by_cases e : j = i
    · subst e
      simp [wipe_length]
    · have : i ∈ own := by
        rcases List.mem_cons.mp h with z | z
        · exact absurd z.symm e
        · exact z
      simp [e, wipe_in this]
theorem wipe_eq {own : List Nat} (n : σ'.length = σ.length) (h : ∀ j, j ∉ own → σ'[j]? = σ[j]?) : wipe σ' own = wipe σ own := by
  refine List.ext_getElem? fun i => ?_
  by_cases hi : i ∈ own
  · rw [wipe_in hi, wipe_in hi, n]
  · rw [wipe_get hi, wipe_get hi, h i hi]
theorem PTs.imp {ifs : List Expr} {t t' : TT} (h : PTs X ifs t) (f : ∀ σ H Q, t' σ H Q → t σ H Q) : PTs X ifs t' := ⟨fun pins s σ H Q I q => h.run pins s σ H Q I (f σ H Q q)⟩
theorem T_none : PTs X [] (tT X.K ca W (evT cl .none)) := PTs.imp pts_nil fun σ H Q ⟨τ, Θ, o, z⟩ => by
  simp only [evT, Out] at z
  exact z H o
theorem T_some (h : PT X ea (tT X.K ca W (evB cl a))) : PTs X [ea] (tT X.K ca W (evT cl (.some a))) := PTs.imp (pts_one h) fun σ H Q ⟨τ, Θ, o, z⟩ => by
  simp only [evT] at z
  exact ⟨τ, Θ, o, z⟩
/-- behind a turn: the new item is in the list -/
theorem acc_put {D : Addr} {acc : List T} {R : Prs} (sp : Sp K ca H ((t, v) :: (R ++ (.lst true acc, .ref D) :: Θ)) []) : ∃ xs, H D = some (.lst xs) ∧ acc.length = xs.length ∧ Sp K ca (upd H D (.lst (xs ++ [v]))) ((.lst true (acc ++ [t]), .ref D) :: (R ++ Θ)) [] := by
  have s1 : Sp K ca H ((.lst true acc, .ref D) :: ((t, v) :: (R ++ Θ))) [] := by
    refine sp.perm ?_
    exact List.perm_middle (a := (T.lst true acc, V.ref D)) (l₁ := (t, v) :: R) (l₂ := Θ)
  obtain ⟨A, xs, e, hA, n, s2⟩ := s1.openL
  cases e
  refine ⟨xs, hA, n, ?_⟩
  have s3 := s2.write (o := .lst (xs ++ [v])) rfl
  refine Sp.closeL ?_ (by simp [n]) upd_same
  rw [zip_app n, List.append_assoc]
  exact s3
/-- the slots behind a turn -/
theorem turn_back {own : List Nat} {σ2 : L2.St} {R : Prs} (f : Fits τ σ2) (hw : wipe σ2 own = wipe σ own) (sp : Sp K ca H (R ++ (prs τ σ2 ++ Θ)) []) : Fits (clr own τ) (wipe σ own) ∧ Sp K ca H (R ++ (prs (clr own τ) (wipe σ own) ++ Θ)) [] := by
  rw [← hw]
  refine ⟨fits_clr f, ?_⟩
  rw [prs_wipe f.len]
  exact sp.dropOwn f
abbrev lcStep (cl : Call) (e : E) (g : Tg) (ifs : Eo) : T → Env → Res (Option T) := fun t τ => match asgT g t τ with
  | some τ => (evT cl ifs τ).bind fun b τ => if b then (evX cl false e τ).bind fun x τ => .ok (some x) τ else .ok none τ
  | none => .bad
theorem drop_cons {α : Type} {l : List α} {i : Nat} {a : α} (h : l[i]? = some a) : l.drop i = a :: l.drop (i + 1) := by
  obtain ⟨hi, rfl⟩ := List.getElem?_eq_some_iff.mp h
  exact List.drop_eq_getElem_cons hi
theorem lc_imp {g : Tg} {it : EV.It} {ifs : Eo} {vs : List Nat} {Q : VK} (nd : vs.Nodup) (sub : ∀ i ∈ tgs g, i ∈ vs) (h : tE K ca W pk (evX cl pk (.lc a g it ifs vs)) σ H Q) :
    tLc (tI K ca WF (evI cl it)) (tG K ca g) (tT K ca WF (evT cl ifs)) (tE K ca WF false (evX cl false a)) vs σ H Q := by
  obtain ⟨τ0, Θ, o, z⟩ := h
  simp only [evX] at z
  have z := noExc_out z
  refine ⟨τ0, Θ, o, Out.noX ((Out.bind z).imp (fun items τ1 z1 J Θ' H1 f1 s1 wk D hD => ?_) fun _ _ _ w => w)⟩
  obtain ⟨op, s2, back⟩ := own_out nd f1 s1
  have hz : Out (lcGo vs (lcStep cl a g ifs) items [] τ1) (fun acc τ2 => ∀ v H', Got K ca pk (unwip vs τ1 τ2) σ Θ H' (.lst true acc) v → Q v H') fun _ _ _ => False := (Out.bind z1).imp (fun acc τ2 w => w) fun _ _ _ w => w
  have fw := fits_clr f1 (own := vs)
  refine lc_it wk.walk (fun i H => ∃ τ acc, Fits (clr vs τ) (wipe σ vs) ∧ Sp K ca H (prs (clr vs τ) (wipe σ vs) ++ ((.lst true acc, .ref D) :: (op ++ (Θ ++ Θ')))) [] ∧
    Out (lcGo vs (lcStep cl a g ifs) (items.drop i) acc τ) (fun acc τ2 => ∀ v H', Got K ca pk (unwip vs τ1 τ2) σ Θ H' (.lst true acc) v → Q v H') fun _ _ _ => False) ?_ ?_ ?_ ?_
  · refine ⟨τ1, [], fw, ?_, hz⟩
    rw [prs_wipe f1.len]
    have s3 := (s2.newL (ts := []) (xs := []) (ps := _) rfl hD)
    refine s3.perm (List.perm_middle.symm.trans ?_)
    refine List.Perm.append_left _ (List.Perm.cons _ (List.Perm.append_left _ ?_))
    exact List.perm_append_comm
  · rintro i H hi ⟨τ, acc, f, sp, _⟩
    exact ⟨prs (clr vs τ) (wipe σ vs) ++ ((.lst true acc, .ref D) :: (op ++ Θ)), by simpa [List.append_assoc] using sp⟩
  · rintro i x H H' hi ⟨τ, acc, f, sp, zz⟩ y
    obtain ⟨t, et, s3⟩ := wk.yields i H x H' (prs (clr vs τ) (wipe σ vs) ++ ((.lst true acc, .ref D) :: (op ++ Θ))) hi (by simpa [List.append_assoc] using sp) y
    have s3 : Sp K ca H' ((t, x) :: (prs (clr vs τ) (wipe σ vs) ++ ((.lst true acc, .ref D) :: (op ++ (Θ ++ Θ'))))) [] := by simpa [List.append_assoc] using s3
    rw [drop_cons et] at zz
    simp only [lcGo, lcStep, wip_clr] at zz
    cases hg : asgT g t (clr vs τ) with
    | none => rw [hg] at zz; exact zz.elim
    | some τ2 =>
      rw [hg] at zz
      have zz := Out.bind (Out.bind zz)
      refine ⟨t, clr vs τ, τ2, _, f, s3, hg, fun σ2 f2 s4 ag ln => ?_⟩
      have hw : wipe σ2 vs = wipe σ vs := wipe_eq (by rw [ln, wipe_length]) fun j hj => by
        rw [ag j (fun z => hj (sub j z)), wipe_get hj]
      refine ⟨hw, tT.use ⟨f2, s4⟩ (Out.noX zz) fun b τ3 H3 p o3 => ?_⟩
      cases b with
      | true =>
        have p : Out ((evX cl false a τ3).bind fun x τ => Res.ok (some x) τ) _ _ := p
        have p := Out.bind p
        refine tE.use o3 (Out.noX p) fun t4 τ4 v4 H4 p4 g4 => ?_
        obtain ⟨xs, hD4, n4, s5⟩ := acc_put g4.keep
        have p4 : Out (if acc.length < SL then lcGo vs (lcStep cl a g ifs) (items.drop (i + 1)) (acc ++ [t4]) τ4 else .bad) _ _ := p4
        split at p4
        · rename_i hl
          refine ⟨xs, hD4, by rw [← n4]; exact hl, τ4, acc ++ [t4], ?_⟩
          obtain ⟨f5, s6⟩ := turn_back (R := [(.lst true (acc ++ [t4]), .ref D)]) g4.fit hw s5
          have s7 : Sp K ca _ ((.lst true (acc ++ [t4]), .ref D) :: (prs (clr vs τ4) (wipe σ vs) ++ (op ++ (Θ ++ Θ')))) [] := s6
          exact ⟨f5, s7.perm List.perm_middle.symm, p4⟩
        · exact p4.elim
      | false =>
        obtain ⟨f5, s6⟩ := turn_back (R := []) o3.fit hw o3.sp
        exact ⟨τ3, acc, f5, s6, p⟩
  · rintro H ⟨τ, acc, f, sp, zz⟩
    rw [List.drop_length] at zz
    simp only [lcGo, Out] at zz
    have e1 : prs (clr vs τ) (wipe σ vs) = prs (clr vs τ) σ := prs_congr (wipe_length σ vs) fun i t h => by
      by_cases hi : i ∈ vs
      · rw [clr_in hi] at h; cases h
      · exact wipe_get hi
    rw [e1] at sp
    have fq : Fits (clr vs τ) σ := ⟨by rw [f.len, wipe_length], fun i t h => by
      obtain ⟨v, hv⟩ := f.has i t h
      by_cases hi : i ∈ vs
      · rw [clr_in hi] at h; cases h
      · rw [wipe_get hi] at hv; exact ⟨v, hv⟩⟩
    have nl : τ.length = τ1.length := by
      have := f.len
      rw [clr_len, wipe_length] at this
      rw [this, f1.len]
    obtain ⟨f6, s6⟩ := back τ H [(.lst true acc, .ref D)] fq nl (by
      refine sp.perm (List.perm_middle.trans ?_)
      refine List.Perm.cons _ (List.Perm.append_left _ (List.Perm.append_left _ ?_))
      exact List.perm_append_comm)
    refine zz _ _ (Got.mkD (Θ' := Θ') f6 ?_)
    exact s6
theorem L_lc {g : Tg} {it : EV.It} {ifs : Eo} {ifx : List Expr} {scope : Scope} {own : List (Str × Nat)} (hc : X.calm = true) (hN : X.N.Nodup) (ok : BlkOk X.N X.env.scope scope own) (nd : (own.map (·.2)).Nodup) (sub : ∀ i ∈ tgs g, i ∈ own.map (·.2))
    (hi : PI X tg iter (tI X.K ca WF (evI cl it)))
    (hg : ∀ (s : Shared) (H : Hp) (C : Addr) (cel : List (Str × Addr)) (fp : List Addr), PG (X.blk s H scope (compEnvC scope cel C X.env) fp) tg (tG X.K ca g))
    (ht : ∀ (s : Shared) (H : Hp) (C : Addr) (cel : List (Str × Addr)) (fp : List Addr), PTs (X.blk s H scope (compEnvC scope cel C X.env) fp) ifx (tT X.K ca WF (evT cl ifs)))
    (he : ∀ (s : Shared) (H : Hp) (C : Addr) (cel : List (Str × Addr)) (fp : List Addr), PE (X.blk s H scope (compEnvC scope cel C X.env) fp) elt (tE X.K ca WF false (evX cl false a)))
    (hs : ∀ x, foldedSetIterable iter X.env x = pure x) :
    PE X (.ListComp elt [⟨tg, iter, ifx, 0⟩] scope pos) (tE X.K ca W pk (evX cl pk (.lc a g it ifs (own.map (·.2))))) := by
  exact PE.imp (pe_lc hc hN hi ok hg ht he hs) fun σ H Q h => lc_imp nd sub h
/-- behind a turn: the new item is in the dict -/
theorem dacc_put {A : Addr} {ks : List D} {ts : List T} {k : Key} {R : Prs} (sp : Sp K ca H ((t, v) :: (R ++ (.dct true false ks ts, .ref A) :: Θ)) []) : ∃ kvs, H A = some (.dK kvs) ∧ kvs.length = ks.length ∧
    Sp K ca (upd H A (.dK (putK kvs k v))) ((.dct true false (dput ks ts (kD k) t).1 (dput ks ts (kD k) t).2, .ref A) :: (R ++ Θ)) [] := by
  have s1 : Sp K ca H ((.dct true false ks ts, .ref A) :: ((t, v) :: (R ++ Θ))) [] := by
    refine sp.perm ?_
    exact List.perm_middle (a := (T.dct true false ks ts, V.ref A)) (l₁ := (t, v) :: R) (l₂ := Θ)
  obtain ⟨B, xs, e, ⟨kk, rfl, n1, hA, nd⟩, n, s2⟩ := s1.openD
  cases e
  obtain ⟨kk', xs', e1, e2, e3, e4, e5, dr, e6⟩ := put_ok (u := t) (v := v) (f := kD) (fun _ _ => kD_inj) (k := k) n1 n nd
  refine ⟨kk.zip xs, hA, by simp [n1], ?_⟩
  have s3 := s2.write (o := .dK (putK (kk.zip xs) k v)) rfl
  refine Sp.closeD (xs := xs') ?_ e3 ⟨kk', e1, e2, by rw [← e4]; exact upd_same, e5⟩
  refine Sp.dropP (dr := dr) (l := (t, v) :: ts.zip xs) (s3.perm (.cons _ ?_)) e6
  exact List.perm_middle
abbrev dcStep (cl : Call) (ke ve : E) (g : Tg) (ifs : Eo) : T → Env → Res (Option (D × T)) := fun t τ => match asgT g t τ with
  | some τ => (evT cl ifs τ).bind fun b τ => if b then (evX cl false ke τ).bind fun d τ => (evX cl false ve τ).bind fun x τ => ret ((datum d).map fun d => some (d, x)) τ else .ok none τ
  | none => .bad
theorem datum_some {d : D} (h : datum t = some d) : t = .im d := by
  unfold datum at h
  split at h
  · cases h; rfl
  · cases h
theorem dc_imp {g : Tg} {it : EV.It} {ifs : Eo} {vs : List Nat} {Q : VK} (nd : vs.Nodup) (sub : ∀ i ∈ tgs g, i ∈ vs) (h : tE K ca W pk (evX cl pk (.dc false a b g it ifs vs)) σ H Q) :
    tDc (tI K ca WF (evI cl it)) (tG K ca g) (tT K ca WF (evT cl ifs)) (tE K ca WF false (evX cl false a)) (tE K ca WF false (evX cl false b)) vs σ H Q := by
  obtain ⟨τ0, Θ, o, z⟩ := h
  simp only [evX] at z
  have z := noExc_out z
  refine ⟨τ0, Θ, o, Out.noX ((Out.bind z).imp (fun items τ1 z1 J Θ' H1 f1 s1 wk A hA => ?_) fun _ _ _ w => w)⟩
  obtain ⟨op, s2, back⟩ := own_out nd f1 s1
  have hz : Out (dcGo vs false (dcStep cl a b g ifs) items [] [] τ1) (fun acc τ2 => ∀ v H', Got K ca pk (unwip vs τ1 τ2) σ Θ H' (.dct true false acc.1 acc.2) v → Q v H') fun _ _ _ => False := (Out.bind z1).imp (fun acc τ2 w => w) fun _ _ _ w => w
  have fw := fits_clr f1 (own := vs)
  have w := wk.walk
  have h0 : ∃ τ ks ts, Fits (clr vs τ) (wipe σ vs) ∧ Sp K ca (upd H1 A (.dK [])) (prs (clr vs τ) (wipe σ vs) ++ ((.dct true false ks ts, .ref A) :: (op ++ (Θ ++ Θ')))) [] ∧
      Out (dcGo vs false (dcStep cl a b g ifs) (items.drop 0) ks ts τ) (fun acc τ2 => ∀ v H', Got K ca pk (unwip vs τ1 τ2) σ Θ H' (.dct true false acc.1 acc.2) v → Q v H') fun _ _ _ => False := by
    refine ⟨τ1, [], [], fw, ?_, hz⟩
    rw [prs_wipe f1.len]
    refine (s2.newD hA).perm (List.perm_middle.symm.trans ?_)
    refine List.Perm.append_left _ (List.Perm.cons _ (List.Perm.append_left _ ?_))
    exact List.perm_append_comm
  refine ⟨fun i m H => m = items.length - i ∧ i ≤ items.length ∧ ∃ τ ks ts, Fits (clr vs τ) (wipe σ vs) ∧ Sp K ca H (prs (clr vs τ) (wipe σ vs) ++ ((.dct true false ks ts, .ref A) :: (op ++ (Θ ++ Θ')))) [] ∧
      Out (dcGo vs false (dcStep cl a b g ifs) (items.drop i) ks ts τ) (fun acc τ2 => ∀ v H', Got K ca pk (unwip vs τ1 τ2) σ Θ H' (.dct true false acc.1 acc.2) v → Q v H') fun _ _ _ => False, ⟨items.length, by simp, Nat.zero_le _, h0⟩, ?_⟩
  rintro i m H ⟨rfl, hi, τ, ks, ts, f, sp, zz⟩
  have q : ∃ R, Sp K ca H (R ++ Θ') [] := ⟨prs (clr vs τ) (wipe σ vs) ++ ((.dct true false ks ts, .ref A) :: (op ++ Θ)), by simpa [List.append_assoc] using sp⟩
  by_cases hlt : i < items.length
  · refine .inr ⟨w.goes i H hlt q, fun H => ∃ τ ks ts, Fits (clr vs τ) (wipe σ vs) ∧ Sp K ca H (prs (clr vs τ) (wipe σ vs) ++ ((.dct true false ks ts, .ref A) :: (op ++ (Θ ++ Θ')))) [] ∧
      Out (dcGo vs false (dcStep cl a b g ifs) (items.drop (i + 1)) ks ts τ) (fun acc τ2 => ∀ v H', Got K ca pk (unwip vs τ1 τ2) σ Θ H' (.dct true false acc.1 acc.2) v → Q v H') fun _ _ _ => False, fun H' p' => ⟨items.length - (i + 1), by omega, rfl, hlt, p'⟩, fun x H' y => ?_⟩
    obtain ⟨t, et, s3⟩ := wk.yields i H x H' (prs (clr vs τ) (wipe σ vs) ++ ((.dct true false ks ts, .ref A) :: (op ++ Θ))) hlt (by simpa [List.append_assoc] using sp) y
    have s3 : Sp K ca H' ((t, x) :: (prs (clr vs τ) (wipe σ vs) ++ ((.dct true false ks ts, .ref A) :: (op ++ (Θ ++ Θ'))))) [] := by simpa [List.append_assoc] using s3
    rw [drop_cons et] at zz
    simp only [dcGo, dcStep, wip_clr] at zz
    cases hg : asgT g t (clr vs τ) with
    | none => rw [hg] at zz; exact zz.elim
    | some τ2 =>
      rw [hg] at zz
      have zz := Out.bind (Out.bind zz)
      refine ⟨t, clr vs τ, τ2, _, f, s3, hg, fun σ2 f2 s4 ag ln => ?_⟩
      have hw : wipe σ2 vs = wipe σ vs := wipe_eq (by rw [ln, wipe_length]) fun j hj => by
        rw [ag j (fun z => hj (sub j z)), wipe_get hj]
      refine ⟨hw, tT.use ⟨f2, s4⟩ (Out.noX zz) fun bb τ3 H3 p o3 => ?_⟩
      cases bb with
      | true =>
        have p : Out ((evX cl false a τ3).bind fun d τ => (evX cl false b τ).bind fun x τ => ret ((datum d).map fun d => some (d, x)) τ) _ _ := p
        have p := Out.bind p
        refine tE.use o3 (Out.noX p) fun t4 τ4 v4 H4 p4 g4 => ?_
        have p4 := Out.bind p4
        refine tE.use1 (Θ' := [(t4, v4)]) g4.ow (Out.noX p4) fun t5 τ5 v5 H5 p5 g5 => ?_
        obtain ⟨o5, e5, p5⟩ := Out.ret p5
        obtain ⟨d, e6, rfl⟩ := Option.map_eq_some_iff.mp e5
        obtain rfl := datum_some e6
        have p5 : Out (if isKey false d && decide (ks.length < SL) then dcGo vs false (dcStep cl a b g ifs) (items.drop (i + 1)) (dput ks ts d t5).1 (dput ks ts d t5).2 τ5 else .bad) _ _ := p5
        split at p5
        · rename_i hl
          simp only [Bool.and_eq_true, decide_eq_true_eq] at hl
          obtain ⟨k, rfl⟩ := kD_leaf hl.1
          have hv4 := repD_kD (g5.keep.peek (p := (.im (kD k), v4)) (by simp)).dat
          have s5 : Sp K ca H5 ((t5, v5) :: (prs τ5 σ2 ++ ((.dct true false ks ts, .ref A) :: (op ++ (Θ ++ Θ'))))) [] := by
            refine Sp.drop1 (p := (.im (kD k), v4)) (g5.keep.perm ?_)
            have := List.perm_middle (a := (T.im (kD k), v4)) (l₁ := (t5, v5) :: prs τ5 σ2) (l₂ := (.dct true false ks ts, .ref A) :: (op ++ (Θ ++ Θ')))
            simpa using this
          obtain ⟨kvs, hA5, n5, s6⟩ := dacc_put (k := k) s5
          refine ⟨kvs, k, hv4, hA5, by rw [n5]; exact hl.2, τ5, (dput ks ts (kD k) t5).1, (dput ks ts (kD k) t5).2, ?_⟩
          obtain ⟨f7, s7⟩ := turn_back (R := [(.dct true false (dput ks ts (kD k) t5).1 (dput ks ts (kD k) t5).2, .ref A)]) g5.fit hw s6
          have s8 : Sp K ca _ ((.dct true false (dput ks ts (kD k) t5).1 (dput ks ts (kD k) t5).2, .ref A) :: (prs (clr vs τ5) (wipe σ vs) ++ (op ++ (Θ ++ Θ')))) [] := s7
          exact ⟨f7, s8.perm List.perm_middle.symm, p5⟩
        · exact p5.elim
      | false =>
        obtain ⟨f5, s6⟩ := turn_back (R := []) o3.fit hw o3.sp
        exact ⟨τ3, ks, ts, f5, s6, p⟩
  · have e : i = items.length := by omega
    subst e
    refine .inl ⟨w.stops H q, ?_⟩
    rw [List.drop_length] at zz
    simp only [dcGo, Out] at zz
    have e1 : prs (clr vs τ) (wipe σ vs) = prs (clr vs τ) σ := prs_congr (wipe_length σ vs) fun i t h => by
      by_cases hi : i ∈ vs
      · rw [clr_in hi] at h; cases h
      · exact wipe_get hi
    rw [e1] at sp
    have fq : Fits (clr vs τ) σ := ⟨by rw [f.len, wipe_length], fun i t h => by
      obtain ⟨v, hv⟩ := f.has i t h
      by_cases hi : i ∈ vs
      · rw [clr_in hi] at h; cases h
      · rw [wipe_get hi] at hv; exact ⟨v, hv⟩⟩
    have nl : τ.length = τ1.length := by
      have := f.len
      rw [clr_len, wipe_length] at this
      rw [this, f1.len]
    obtain ⟨f6, s6⟩ := back τ H [(.dct true false ks ts, .ref A)] fq nl (by
      refine sp.perm (List.perm_middle.trans ?_)
      refine List.Perm.cons _ (List.Perm.append_left _ (List.Perm.append_left _ ?_))
      exact List.perm_append_comm)
    refine zz _ _ (Got.mkD (Θ' := Θ') f6 ?_)
    exact s6
theorem L_dc {g : Tg} {it : EV.It} {ifs : Eo} {ifx : List Expr} {scope : Scope} {own : List (Str × Nat)} (hc : X.calm = true) (hN : X.N.Nodup) (ok : BlkOk X.N X.env.scope scope own) (nd : (own.map (·.2)).Nodup) (sub : ∀ i ∈ tgs g, i ∈ own.map (·.2))
    (hi : PI X tg iter (tI X.K ca WF (evI cl it)))
    (hg : ∀ (s : Shared) (H : Hp) (C : Addr) (cel : List (Str × Addr)) (fp : List Addr), PG (X.blk s H scope (compEnvC scope cel C X.env) fp) tg (tG X.K ca g))
    (ht : ∀ (s : Shared) (H : Hp) (C : Addr) (cel : List (Str × Addr)) (fp : List Addr), PTs (X.blk s H scope (compEnvC scope cel C X.env) fp) ifx (tT X.K ca WF (evT cl ifs)))
    (hk : ∀ (s : Shared) (H : Hp) (C : Addr) (cel : List (Str × Addr)) (fp : List Addr), PE (X.blk s H scope (compEnvC scope cel C X.env) fp) kx (tE X.K ca WF false (evX cl false a)))
    (he : ∀ (s : Shared) (H : Hp) (C : Addr) (cel : List (Str × Addr)) (fp : List Addr), PE (X.blk s H scope (compEnvC scope cel C X.env) fp) vx (tE X.K ca WF false (evX cl false b)))
    (hs : ∀ x, foldedSetIterable iter X.env x = pure x) :
    PE X (.DictComp kx vx [⟨tg, iter, ifx, 0⟩] scope pos) (tE X.K ca W pk (evX cl pk (.dc false a b g it ifs (own.map (·.2))))) := by
  exact PE.imp (pe_dc hc hN hi ok hg ht hk he hs) fun σ H Q h => dc_imp nd sub h
end
end EV
set_option Elab.async false
set_option linter.all false
set_option maxRecDepth 100000
set_option maxHeartbeats 1000000
namespace EV
open PySem PySem.Spec L2
open PyProof.Rows hiding St
/-! ### statements -/
mutual
inductive S where
  | asg (g : Tg) (e : E)
  | sub (i : Nat) (k e : E)
  | par (i j : Nat) (a b : E)
  | par3 (i j l : Nat) (a b c : E)
  | aug (i : Nat) (e : E)
  | augS (i : Nat) (k e : E)
  | ex (e : E)
  | ife (c : E) (a b : Ss)
  | whl (c : E) (b : Ss)
  | for_ (g : Tg) (it : It) (b : Ss)
  | ret (e : Eo)
  | brk
  | cnt
  | pass
  | rse (c : Nat) (e : E)
inductive Ss where
  | nil
  | cons (s : S) (r : Ss)
end
inductive SRes where
  | nx (τ : Env)
  | bk (τ : Env)
  | ct (τ : Env)
  | rt (t : T) (τ : Env)
  | exc (c : Nat) (v : T) (τ : Env)
  | bad
def rb {α : Type} (r : Res α) (k : α → Env → SRes) : SRes := match r with
  | .ok a τ => k a τ
  | .exc c v τ => .exc c v τ
  | .bad => .bad
@[simp] theorem rb_ok {α : Type} (a : α) (τ : Env) (k : α → Env → SRes) : rb (.ok a τ) k = k a τ := rfl
@[simp] theorem rb_bad {α : Type} (k : α → Env → SRes) : rb .bad k = .bad := rfl
@[simp] theorem rb_exc {α : Type} (c : Nat) (v : T) (τ : Env) (k : α → Env → SRes) : rb (.exc c v τ) k = .exc c v τ := rfl
/-- a loop goes on -/
def thenW (r : SRes) (k : Env → SRes) : SRes := match r with
  | .nx τ => k τ
  | .ct τ => k τ
  | .bk τ => .nx τ
  | r => r
@[simp] theorem thenW_nx (τ : Env) (k : Env → SRes) : thenW (.nx τ) k = k τ := rfl
@[simp] theorem thenW_ct (τ : Env) (k : Env → SRes) : thenW (.ct τ) k = k τ := rfl
@[simp] theorem thenW_bk (τ : Env) (k : Env → SRes) : thenW (.bk τ) k = .nx τ := rfl
@[simp] theorem thenW_rt (t : T) (τ : Env) (k : Env → SRes) : thenW (.rt t τ) k = .rt t τ := rfl
@[simp] theorem thenW_exc (c : Nat) (v : T) (τ : Env) (k : Env → SRes) : thenW (.exc c v τ) k = .exc c v τ := rfl
@[simp] theorem thenW_bad (k : Env → SRes) : thenW .bad k = .bad := rfl
theorem thenW_rb {α : Type} (r : Res α) (f : α → Env → SRes) (k : Env → SRes) : thenW (rb r f) k = rb r fun a τ => thenW (f a τ) k := by
  cases r <;> rfl
/-- statements one behind the other -/
def thenS (r : SRes) (k : Env → SRes) : SRes := match r with
  | .nx τ => k τ
  | r => r
@[simp] theorem thenS_nx (τ : Env) (k : Env → SRes) : thenS (.nx τ) k = k τ := rfl
@[simp] theorem thenS_ct (τ : Env) (k : Env → SRes) : thenS (.ct τ) k = .ct τ := rfl
@[simp] theorem thenS_bk (τ : Env) (k : Env → SRes) : thenS (.bk τ) k = .bk τ := rfl
@[simp] theorem thenS_rt (t : T) (τ : Env) (k : Env → SRes) : thenS (.rt t τ) k = .rt t τ := rfl
@[simp] theorem thenS_exc (c : Nat) (v : T) (τ : Env) (k : Env → SRes) : thenS (.exc c v τ) k = .exc c v τ := rfl
@[simp] theorem thenS_bad (k : Env → SRes) : thenS .bad k = .bad := rfl
def whileF (s : Env → SRes) : Nat → Env → SRes
  | 0, _ => .bad
  | n + 1, τ => thenW (s τ) (whileF s n)
theorem whileF_up {s : Env → SRes} : ∀ {n : Nat} {τ : Env}, whileF s n τ ≠ .bad → whileF s (n + 1) τ = whileF s n τ
  | 0, _, h => (h rfl).elim
  | n + 1, τ, h => by
    have h' : thenW (s τ) (whileF s n) ≠ .bad := h
    show thenW (s τ) (whileF s (n + 1)) = thenW (s τ) (whileF s n)
    cases e : s τ with
    | nx τ' => rw [e] at h'; exact whileF_up h'
    | ct τ' => rw [e] at h'; exact whileF_up h'
    | _ => rfl
theorem whileF_add {s : Env → SRes} {n : Nat} {τ : Env} (h : whileF s n τ ≠ .bad) : ∀ k, whileF s (n + k) τ = whileF s n τ
  | 0 => rfl
  | k + 1 => by
    have := whileF_add h k
    rw [show n + (k + 1) = (n + k) + 1 by omega, whileF_up (by rw [this]; exact h), this]
/-- a loop, to its end -/
noncomputable def whileC (s : Env → SRes) (τ : Env) : SRes := by
  classical exact if h : ∃ n, whileF s n τ ≠ .bad then whileF s (Classical.choose h) τ else .bad
theorem whileC_of {s : Env → SRes} {n : Nat} {τ : Env} (h : whileF s n τ ≠ .bad) : whileC s τ = whileF s n τ := by
  classical
  unfold whileC
  have h0 : ∃ n, whileF s n τ ≠ .bad := ⟨n, h⟩
  rw [dif_pos h0]
  have hc := Classical.choose_spec h0
  have e1 := whileF_add hc n
  have e2 := whileF_add h (Classical.choose h0)
  rw [← e1, ← e2, Nat.add_comm]
theorem whileC_fuel {s : Env → SRes} {τ : Env} (h : whileC s τ ≠ .bad) : ∃ n, whileF s n τ ≠ .bad ∧ whileC s τ = whileF s n τ := by
  classical
  by_cases h0 : ∃ n, whileF s n τ ≠ .bad
  · obtain ⟨n, hn⟩ := h0
    exact ⟨n, hn, whileC_of hn⟩
  · unfold whileC at h
    rw [dif_neg h0] at h
    exact (h rfl).elim
/-- one turn of a loop -/
theorem whileC_eq {s : Env → SRes} {τ : Env} : whileC s τ = thenW (s τ) (whileC s) := by
  by_cases h : whileC s τ = .bad
  · rw [h]
    cases e : s τ with
    | nx τ' =>
      show SRes.bad = whileC s τ'
      by_cases h2 : whileC s τ' = .bad
      · exact h2.symm
      · obtain ⟨n, h3, h4⟩ := whileC_fuel h2
        have h5 : whileF s (n + 1) τ ≠ .bad := by
          show thenW (s τ) (whileF s n) ≠ .bad
          rw [e]; exact h3
        rw [whileC_of h5] at h
        exact (h5 h).elim
    | ct τ' =>
      show SRes.bad = whileC s τ'
      by_cases h2 : whileC s τ' = .bad
      · exact h2.symm
      · obtain ⟨n, h3, h4⟩ := whileC_fuel h2
        have h5 : whileF s (n + 1) τ ≠ .bad := by
          show thenW (s τ) (whileF s n) ≠ .bad
          rw [e]; exact h3
        rw [whileC_of h5] at h
        exact (h5 h).elim
    | bk τ' =>
      have h5 : whileF s 1 τ ≠ .bad := by
        show thenW (s τ) (whileF s 0) ≠ .bad
        rw [e]; intro z; cases z
      rw [whileC_of h5] at h
      exact (h5 h).elim
    | rt t τ' =>
      have h5 : whileF s 1 τ ≠ .bad := by
        show thenW (s τ) (whileF s 0) ≠ .bad
        rw [e]; intro z; cases z
      rw [whileC_of h5] at h
      exact (h5 h).elim
    | exc c v τ' =>
      have h5 : whileF s 1 τ ≠ .bad := by
        show thenW (s τ) (whileF s 0) ≠ .bad
        rw [e]; intro z; cases z
      rw [whileC_of h5] at h
      exact (h5 h).elim
    | bad => rfl
  · obtain ⟨n, h3, h4⟩ := whileC_fuel h
    cases n with
    | zero => exact (h3 rfl).elim
    | succ n =>
      rw [h4]
      show thenW (s τ) (whileF s n) = _
      have h3' : thenW (s τ) (whileF s n) ≠ .bad := h3
      cases e : s τ with
      | nx τ' => rw [e] at h3'; exact (whileC_of h3').symm
      | ct τ' => rw [e] at h3'; exact (whileC_of h3').symm
      | _ => rfl
def forGo (s : T → Env → SRes) : List T → Env → SRes
  | [], τ => .nx τ
  | t :: r, τ => thenW (s t τ) (forGo s r)
/-- a list, a dict -/
def seqD : T → Bool
  | .lst _ _ => true
  | .dct _ _ _ _ => true
  | _ => false
abbrev isetT (τ : Env) (i : Nat) (t : T) (k : Env → SRes) : SRes := if i < τ.length then k (τ.set i (some t)) else .bad
mutual
noncomputable def evS (cl : Call) : S → Env → SRes
  | .asg g e, τ => rb (evX cl false e τ) fun t τ => match asgT g t τ with
    | some τ => .nx τ
    | none => .bad
  | .sub i k e, τ => rb (evX cl false e τ) fun u τ => match τ.at i with
    | some _ => rb (evX cl true k τ) fun k τ => match τ.at i with
      | some t => match setF t k u with
        | some t' => .nx (τ.set i (some t'))
        | none => .bad
      | none => .bad
    | none => .bad
  | .par i j a b, τ => rb (evL cl (.one a (.one b .nil)) τ) fun ts τ => match ts with
    | [x, y] => if i < τ.length ∧ j < τ.length then .nx ((τ.set i (some x)).set j (some y)) else .bad
    | _ => .bad
  | .par3 i j l a b c, τ => rb (evL cl (.one a (.one b (.one c .nil))) τ) fun ts τ => match ts with
    | [x, y, z] => if i < τ.length ∧ j < τ.length ∧ l < τ.length then .nx (((τ.set i (some x)).set j (some y)).set l (some z)) else .bad
    | _ => .bad
  | .aug i e, τ => match τ.at i with
    | some (.im (.int x)) => rb (evX cl true e τ) fun t τ => match intOf t with
      | some y => .nx (τ.set i (some (.im (.int (x + y)))))
      | none => .bad
    | _ => .bad
  | .augS i k e, τ => match τ.at i with
    | some _ => rb (evX cl true k τ) fun k τ => match datum k, τ.at i with
      | some d, some t => if seqD t then match idxF t (.im d) with
          | some (.im (.int x)) => rb (evX cl true e τ) fun y τ => match intOf y, τ.at i with
            | some y, some t => match setF t (.im d) (.im (.int (x + y))) with
              | some t' => .nx (τ.set i (some t'))
              | none => .bad
            | _, _ => .bad
          | _ => .bad
        else .bad
      | _, _ => .bad
    | none => .bad
  | .ex e, τ => rb (evX cl true e τ) fun _ τ => .nx τ
  | .ife c a b, τ => rb (evB cl c τ) fun k τ => if k then evSs cl a τ else evSs cl b τ
  | .whl c b, τ => whileC (fun τ => rb (evB cl c τ) fun k τ => if k then evSs cl b τ else .bk τ) τ
  | .for_ g it b, τ => rb (evI cl it τ) fun items τ => forGo (fun t τ => match asgT g t τ with
    | some τ => evSs cl b τ
    | none => .bad) items τ
  | .ret .none, τ => .rt (.im .non) τ
  | .ret (.some e), τ => rb (evX cl false e τ) fun t τ => .rt t τ
  | .brk, τ => .bk τ
  | .cnt, τ => .ct τ
  | .pass, τ => .nx τ
  | .rse c e, τ => rb (evX cl false e τ) fun t τ => .exc c t τ
noncomputable def evSs (cl : Call) : Ss → Env → SRes
  | .nil, τ => .nx τ
  | .cons s r, τ => thenS (evS cl s τ) (evSs cl r)
end
section
variable {X : Cx} {ca : Nat → Addr} {W : WX} {pk : Bool} {cl : Call} {pos p p1 p2 p3 p4 apos cpos : Pos} {ea eb ec tg iter elt kx vx : Expr} {a b c : E} {n : Nat}
variable {τ τ' : Env} {σ σ' σ0 : L2.St} {Θ Θ' : Prs} {H H' : Hp} {t u : T} {v x : V} {K : PySem.W.Frag} {es : List Expr} {r : Es} {fx : List Nat} {D D' : Ends}
def Agr (fx : List Nat) (σ σ' : L2.St) : Prop := ∀ i ∈ fx, σ'[i]? = σ[i]?
theorem Agr.rfl : Agr fx σ σ := fun _ _ => Eq.refl _
theorem Agr.trans {σ1 σ2 σ3 : L2.St} (h : Agr fx σ1 σ2) (h' : Agr fx σ2 σ3) : Agr fx σ1 σ3 := fun i hi => (h' i hi).trans (h i hi)
/-- what is behind a statement -/
def SOut (K : PySem.W.Frag) (ca : Nat → Addr) (W : WX) (fx : List Nat) (σ0 : L2.St) (Θ : Prs) (D : Ends) : SRes → Prop
  | .nx τ => ∀ σ H, Ow K ca τ σ Θ H → Agr fx σ0 σ → D.nx σ H
  | .bk τ => ∀ σ H, Ow K ca τ σ Θ H → Agr fx σ0 σ → D.bk σ H
  | .ct τ => ∀ σ H, Ow K ca τ σ Θ H → Agr fx σ0 σ → D.ct σ H
  | .rt t τ => ∀ v σ H, Got K ca false τ σ Θ H t v → Agr fx σ0 σ → D.rt v H
  | .exc c a τ => ∀ d x σ H, Got K ca false τ σ Θ H a x → Agr fx σ0 σ → H d = some (.xd [("value", x)]) → W (.ref (ca c)) (some d) σ H
  | .bad => False
def tS (K : PySem.W.Frag) (ca : Nat → Addr) (W : WX) (fx : List Nat) (m : Env → SRes) : TS := fun D σ H => ∃ τ Θ, Ow K ca τ σ Θ H ∧ SOut K ca W fx σ Θ D (m τ)
theorem SOut.re {r : SRes} (h : SOut K ca W fx σ0 Θ D r) (ag : Agr fx σ0 σ) : SOut K ca W fx σ Θ D r := by
  cases r with
  | nx τ => exact fun σ' H o q => h σ' H o (ag.trans q)
  | bk τ => exact fun σ' H o q => h σ' H o (ag.trans q)
  | ct τ => exact fun σ' H o q => h σ' H o (ag.trans q)
  | rt t τ => exact fun v σ' H o q => h v σ' H o (ag.trans q)
  | exc c a τ => exact fun d x σ' H o q => h d x σ' H o (ag.trans q)
  | bad => exact h
theorem Ow.down (o : Ow K ca τ σ (Θ' ++ Θ) H) : Ow K ca τ σ Θ H := ⟨o.fit, (o.sp.perm perm3).drop⟩
theorem SOut.up {r : SRes} (h : SOut K ca W fx σ0 Θ D r) : SOut K ca W fx σ0 (Θ' ++ Θ) D r := by
  cases r with
  | nx τ => exact fun σ' H o q => h σ' H o.down q
  | bk τ => exact fun σ' H o q => h σ' H o.down q
  | ct τ => exact fun σ' H o q => h σ' H o.down q
  | rt t τ => exact fun v σ' H o q => h v σ' H o.down q
  | exc c a τ => exact fun d x σ' H o q => h d x σ' H o.down q
  | bad => exact h
theorem SOut.rb {α : Type} {r : Res α} {k : α → Env → SRes} (h : SOut K ca W fx σ Θ D (rb r k)) : Out r (fun a τ => SOut K ca W fx σ Θ D (k a τ)) (EXC K ca W σ Θ) := by
  cases r with
  | ok a τ => exact h
  | exc c v τ => exact fun d x H g e => h d x σ H g .rfl e
  | bad => exact h
theorem Got.toOw (g : Got K ca false τ σ Θ H t v) : Ow K ca τ σ Θ H := g.base
theorem S_asg {g : Tg} (he : PE X ea (tE X.K ca W false (evX cl false a))) (hg : PG X tg (tG X.K ca g)) (hd : ∀ i ∈ tgs g, i ∉ fx) (hs : swapsWithSole [tg] ea pos.line X.env = pure false) (hw : swappedStores [tg] ea X.env = pure none)
    (h1 : (assignEach [tg] X.env).map (·.2) = [assign tg X.env]) : PS X (.Assign [tg] ea pos) (tS X.K ca W fx (evS cl (.asg g a))) := by
  refine PS.imp (ps_asg he hg hs hw h1) fun D σ H ⟨τ, Θ, o, z⟩ => ?_
  simp only [evS] at z
  refine tE.use o z.rb fun t τ1 v H1 p gt => ?_
  cases e : asgT g t τ1 with
  | none => rw [e] at p; exact p.elim
  | some τ2 =>
    rw [e] at p
    exact ⟨t, τ1, τ2, Θ, gt.fit, gt.keep, e, fun σ' f' s' ag ln => p σ' H1 ⟨f', s'⟩ fun i hi => ag i fun z => hd i z hi⟩
/-- x = [..], the name bound within -/
theorem S_asgU {i : Nat} {te : TE} (hp : PS X (.Assign [tg] ea pos) (tAsg te (gName i))) (hte : ∀ σ H Q, tE X.K ca W false (evX cl false a) σ H Q → te σ H Q) (hd : i ∉ fx) : PS X (.Assign [tg] ea pos) (tS X.K ca W fx (evS cl (.asg (.n i) a))) := by
  refine PS.imp hp fun D σ H ⟨τ, Θ, o, z⟩ => ?_
  simp only [evS] at z
  refine hte _ _ _ (tE.use o z.rb fun t τ1 v H1 p gt => ?_)
  simp only [asgT] at p
  split at p
  · rename_i τ2 e
    split at e
    · rename_i hi
      cases e
      refine p (σ.set i (some v)) H1 ⟨gt.fit.setV (by rw [← gt.fit.len]; exact hi), ?_⟩ fun j hj => set_gn (i := i) (by simp; intro z; exact hd (z ▸ hj))
      have s1 : Sp X.K ca H1 ([(t, v)] ++ (prs (τ1.set i none) σ ++ Θ)) [] := Sp.dropSlot (R := [(t, v)]) gt.fit gt.keep
      exact s1.perm ((prs_slot gt.fit hi).symm.append_right Θ)
    · cases e
  · exact p.elim
theorem S_sub {i : Nat} {ei ek : Expr} {k : E} (hu : X.A.units + 150 < cLine) (hv : PE X ei (tVar i)) (hk : PE X ek (tE X.K ca W true (evX cl true k))) (he : PE X ea (tE X.K ca W false (evX cl false a)))
    (ha : ∀ v, assign (.Subscript ei ek p1) X.env v = (do
      let ov ← holding [v] (eval ei X.env)
      let iv ← holding [v, ov] (eval ek X.env)
      standAt p1
      holding [v, ov, iv] (setItem ov iv v)
      release [v, ov, iv] []))
    (hs : swapsWithSole [.Subscript ei ek p1] ea pos.line X.env = pure false) (hw : swappedStores [.Subscript ei ek p1] ea X.env = pure none) (h1 : (assignEach [.Subscript ei ek p1] X.env).map (·.2) = [assign (.Subscript ei ek p1) X.env]) :
    PS X (.Assign [.Subscript ei ek p1] ea pos) (tS X.K ca W fx (evS cl (.sub i k a))) := by
  refine PS.imp (ps_asg he (pg_sub hv hk (setOk (ca := ca) hu) ha) hs hw h1) fun D σ H ⟨τ, Θ, o, z⟩ => ?_
  simp only [evS] at z
  refine tE.use o z.rb fun u τ1 v H1 p gt => ?_
  split at p
  · rename_i t0 h0
    show tVar i σ H1 fun o H1 => tE X.K ca W true (evX cl true k) σ H1 fun i H2 => rSetF X.K ca o i v H2 fun H3 => D.nx σ H3
    refine L_late gt.fit h0 fun vo hvo => ?_
    refine tE.use1 (Θ' := [(u, v)]) gt.ow p.rb fun kt τ2 vk H2 p2 g2 => ?_
    split at p2
    · rename_i t ht
      split at p2
      · rename_i t' hset
        refine ⟨t, kt, u, prs (τ2.set i none) σ ++ Θ, t', ?_, hset, fun H3 s3 => p2 σ H3 ?_ .rfl⟩
        · refine g2.look.perm ?_
          have p1 := (prs_out ht hvo).append_right ([(u, v)] ++ Θ)
          refine p1.trans (List.Perm.cons _ ?_)
          exact List.perm_middle
        · refine ⟨g2.fit.setS hvo, ?_⟩
          have p2 := (prs_put (t := t') hvo (at_lt ht)).append_right Θ
          exact s3.perm p2.symm
      · exact p2.elim
    · exact p2.elim
  · exact p.elim
theorem agr_set {i : Nat} {o : Option V} (h : i ∉ fx) : Agr fx σ (σ.set i o) := fun j hj => by
  have hne : i ≠ j := fun z => h (by rw [z]; exact hj)
  rw [List.getElem?_set_ne hne]
theorem Ow.setV (f : Fits τ σ) {i : Nat} (hi : i < τ.length) (sp : Sp K ca H ((t, v) :: (prs τ σ ++ Θ)) []) : Ow K ca (τ.set i (some t)) (σ.set i (some v)) Θ H := by
  refine ⟨f.setV (by rw [← f.len]; exact hi), ?_⟩
  have s1 : Sp K ca H ([(t, v)] ++ (prs (τ.set i none) σ ++ Θ)) [] := Sp.dropSlot (R := [(t, v)]) f sp
  exact s1.perm ((prs_slot f hi).symm.append_right Θ)
theorem S_par {i j : Nat} {st : Stmt} {ta : TA} (h : PS X st (tPar i j (tL X.K ca W (evL cl (.one a (.one b .nil)))))) (hi : i ∉ fx) (hj : j ∉ fx) : PS X st (tS X.K ca W fx (evS cl (.par i j a b))) := by
  refine PS.imp h fun D σ H ⟨τ, Θ, o, z⟩ => ?_
  simp only [evS] at z
  refine ⟨τ, Θ, o, z.rb.imp (fun ts τ1 p xs H1 f n sp => ?_) fun _ _ _ w => w⟩
  split at p
  · rename_i x y
    obtain ⟨vx, vy, rfl⟩ := len2 (by simpa using n)
    split at p
    · rename_i hl
      refine ⟨vx, vy, rfl, p _ H1 ?_ ((agr_set hi).trans (agr_set hj))⟩
      have s1 : Sp X.K ca H1 ((x, vx) :: (prs τ1 σ ++ ((y, vy) :: Θ))) [] := by
        have s0 : Sp X.K ca H1 ((x, vx) :: (y, vy) :: (prs τ1 σ ++ Θ)) [] := sp
        exact s0.perm (List.Perm.cons _ List.perm_middle.symm)
      have o1 := Ow.setV f hl.1 s1
      exact Ow.setV o1.fit (by simpa using hl.2) (o1.sp.perm List.perm_middle)
    · exact p.elim
  · exact p.elim
theorem S_par3 {i j l : Nat} {st : Stmt} {ta : TA} (h : PS X st (tPar3 i j l (tL X.K ca W (evL cl (.one a (.one b (.one c .nil))))))) (hi : i ∉ fx) (hj : j ∉ fx) (hl : l ∉ fx) : PS X st (tS X.K ca W fx (evS cl (.par3 i j l a b c))) := by
  refine PS.imp h fun D σ H ⟨τ, Θ, o, z⟩ => ?_
  simp only [evS] at z
  refine ⟨τ, Θ, o, z.rb.imp (fun ts τ1 p xs H1 f n sp => ?_) fun _ _ _ w => w⟩
  split at p
  · rename_i x y w
    obtain ⟨vx, vy, vw, rfl⟩ : ∃ v1 v2 v3, xs = [v1, v2, v3] := by
      match xs, n with
      | [a, b, c], _ => exact ⟨a, b, c, rfl⟩
      | [], n => simp at n
      | [_], n => simp at n
      | [_, _], n => simp at n
      | _ :: _ :: _ :: _ :: _, n => simp at n
    split at p
    · rename_i hll
      refine ⟨vx, vy, vw, rfl, p _ H1 ?_ (((agr_set hi).trans (agr_set hj)).trans (agr_set hl))⟩
      have s1 : Sp X.K ca H1 ((x, vx) :: (prs τ1 σ ++ ((y, vy) :: (w, vw) :: Θ))) [] := by
        have s0 : Sp X.K ca H1 ((x, vx) :: (y, vy) :: (w, vw) :: (prs τ1 σ ++ Θ)) [] := sp
        refine s0.perm (List.Perm.cons _ ?_)
        have := perm3 (A := [(y, vy), (w, vw)]) (B := prs τ1 σ) (C := Θ)
        simpa using this
      have o1 := Ow.setV f hll.1 s1
      have o2 := Ow.setV o1.fit (by simpa using hll.2.1) (o1.sp.perm List.perm_middle)
      exact Ow.setV o2.fit (by simpa using hll.2.2) (o2.sp.perm List.perm_middle)
    · exact p.elim
  · exact p.elim
theorem S_aug {i : Nat} {st : Stmt} (h : PS X st (tAug i (tE X.K ca W true (evX cl true a)) (ipI fun i j => i + j))) (hi : i ∉ fx) : PS X st (tS X.K ca W fx (evS cl (.aug i a))) := by
  refine PS.imp h fun D σ H ⟨τ, Θ, o, z⟩ => ?_
  simp only [evS] at z
  split at z
  · rename_i x hx
    obtain ⟨v0, hv0, sp0⟩ := o.peek hx
    obtain rfl := sp0.int
    refine ⟨_, hv0, tE.use o z.rb fun t τ1 v H1 p gt => ?_⟩
    split at p
    · rename_i y hy
      obtain rfl := intOf_some hy
      obtain rfl := gt.look.int
      refine ⟨x, y, rfl, rfl, p _ H1 ?_ (agr_set hi)⟩
      by_cases hl : i < τ1.length
      · exact Ow.setV gt.fit hl gt.look.giveI
      · have h1 : τ1.set i (some (.im (.int (x + y)))) = τ1 := List.set_eq_of_length_le (by omega)
        have h2 : σ.set i (some (V.int (x + y))) = σ := List.set_eq_of_length_le (by rw [← gt.fit.len]; omega)
        rw [h1, h2]
        exact gt.base
    · exact p.elim
  · exact z.elim
theorem S_ex {st : Stmt} (h : PS X st (tDrop (tE X.K ca W true (evX cl true a)))) : PS X st (tS X.K ca W fx (evS cl (.ex a))) := by
  refine PS.imp h fun D σ H ⟨τ, Θ, o, z⟩ => ?_
  simp only [evS] at z
  exact tE.use o z.rb fun t τ1 v H1 p gt => p σ H1 gt.base .rfl
theorem S_ret (h : PE X ea (tE X.K ca W false (evX cl false a))) : PS X (.Return (some ea) pos) (tS X.K ca W fx (evS cl (.ret (.some a)))) := by
  refine PS.imp (ps_ret h) fun D σ H ⟨τ, Θ, o, z⟩ => ?_
  simp only [evS] at z
  exact tE.use o z.rb fun t τ1 v H1 p gt => p v σ H1 gt .rfl
theorem S_rse {c : Nat} {x : Str} (J : JExc X.prog X.K (ca c)) (hs : X.mg "super" = none) (hr : Room 0 X.A) (hc : X.calm = true) (tk : Takes X W) (hg : Gl X x) (hm : X.mg x = some (.ref (ca c))) (he : PE X ea (tE X.K ca W false (evX cl false a)))
    (hns : starEach [ea] X.env = (false, eval ea X.env) :: starEach [] X.env) (hdb : (x == ("__debug__" : Str)) = false) : PS X (.Raise (some (.Call (.Name x p) [ea] [] p1)) none pos) (tS X.K ca W fx (evS cl (.rse c a))) := by
  refine PS.imp (ps_raise hc tk (pmk_jump J hs hr hg hm he hns hdb)) fun D σ H ⟨τ, Θ, o, z⟩ => ?_
  simp only [evS] at z
  refine tE.use o z.rb fun t τ1 v H1 p gt d hd => ?_
  have s1 : Sp X.K ca (upd H1 d (.xd [("value", v)])) ([(.cell, .ref d)] ++ ((t, v) :: (prs τ1 σ ++ Θ))) [] := gt.keep.newCell hd rfl
  exact p d v σ _ (.of gt.fit s1.drop) .rfl upd_same
theorem S_retN : PS X (.Return none pos) (tS X.K ca W fx (evS cl (.ret .none))) := by
  refine PS.imp ps_retN fun D σ H ⟨τ, Θ, o, z⟩ => ?_
  simp only [evS, SOut] at z
  exact z .non σ H (.of o.fit (o.sp.giveN)) .rfl
theorem S_pass : PS X (.Pass pos) (tS X.K ca W fx (evS cl .pass)) := PS.imp ps_pass fun D σ H ⟨τ, Θ, o, z⟩ => by
  simp only [evS, SOut] at z
  exact z σ H o .rfl
theorem S_doc {s0 : Str} {j : Nat} : PS X (.Expr (.Constant (.str s0) j p1) pos) (tS X.K ca W fx (evS cl .pass)) := PS.imp ps_doc fun D σ H ⟨τ, Θ, o, z⟩ => by
  simp only [evS, SOut] at z
  exact z σ H o .rfl
theorem S_brk : PS X (.Break pos) (tS X.K ca W fx (evS cl .brk)) := PS.imp ps_break fun D σ H ⟨τ, Θ, o, z⟩ => by
  simp only [evS, SOut] at z
  exact z σ H o .rfl
theorem S_cnt : PS X (.Continue pos) (tS X.K ca W fx (evS cl .cnt)) := PS.imp ps_continue fun D σ H ⟨τ, Θ, o, z⟩ => by
  simp only [evS, SOut] at z
  exact z σ H o .rfl
theorem Ss_nil : PSs X [] (tS X.K ca W fx (evSs cl .nil)) := PSs.imp pss_nil fun D σ H ⟨τ, Θ, o, z⟩ => by
  simp only [evSs, SOut] at z
  exact z σ H o .rfl
theorem Ss_cons {st : Stmt} {rest : List Stmt} {s : S} {r : Ss} (h1 : PS X st (tS X.K ca W fx (evS cl s))) (h2 : PSs X rest (tS X.K ca W fx (evSs cl r))) : PSs X (st :: rest) (tS X.K ca W fx (evSs cl (.cons s r))) := by
  refine PSs.imp (pss_cons h1 h2) fun D σ H ⟨τ, Θ, o, z⟩ => ?_
  simp only [evSs] at z
  refine ⟨τ, Θ, o, ?_⟩
  cases e : evS cl s τ with
  | nx τ1 =>
    rw [e] at z
    exact fun σ1 H1 o1 ag => ⟨τ1, Θ, o1, SOut.re z ag⟩
  | bk τ1 => rw [e] at z; exact z
  | ct τ1 => rw [e] at z; exact z
  | rt t τ1 => rw [e] at z; exact z
  | exc c a τ1 => rw [e] at z; exact z
  | bad => rw [e] at z; exact z
theorem S_ife {sa sb : Ss} {ba bb : List Stmt} (hc : PT X ec (tT X.K ca W (evB cl c))) (ha : PSs X ba (tS X.K ca W fx (evSs cl sa))) (hb : PSs X bb (tS X.K ca W fx (evSs cl sb))) : PS X (.If ec ba bb pos) (tS X.K ca W fx (evS cl (.ife c sa sb))) := by
  refine PS.imp (ps_if hc ha hb) fun D σ H ⟨τ, Θ, o, z⟩ => ?_
  simp only [evS] at z
  refine tT.use o z.rb fun k τ1 H1 p o1 => ?_
  cases k with
  | true => exact ⟨τ1, Θ, o1, p⟩
  | false => exact ⟨τ1, Θ, o1, p⟩
/-- what is behind a turn of a loop -/
theorem SOut.turn {r : SRes} {k : Env → SRes} (h : SOut K ca W fx σ0 Θ D (thenW r k)) (ag : Agr fx σ0 σ) {N : L2.St → Hp → Prop} (hN : ∀ τ σ' H', Ow K ca τ σ' Θ H' → Agr fx σ0 σ' → SOut K ca W fx σ0 Θ D (k τ) → N σ' H') :
    SOut K ca W fx σ Θ { D with nx := N, ct := N, bk := D.nx } r := by
  cases r with
  | nx τ => exact fun σ' H' o q => hN τ σ' H' o (ag.trans q) h
  | ct τ => exact fun σ' H' o q => hN τ σ' H' o (ag.trans q) h
  | bk τ => exact fun σ' H' o q => h σ' H' o (ag.trans q)
  | rt t τ => exact fun v σ' H o q => h v σ' H o (ag.trans q)
  | exc c a τ => exact fun d x σ' H o q => h d x σ' H o (ag.trans q)
  | bad => exact h
theorem SOut.rb' {α : Type} {r : Res α} {k : α → Env → SRes} (h : SOut K ca W fx σ0 Θ D (EV.rb r k)) (ag : Agr fx σ0 σ) : Out r (fun a τ => SOut K ca W fx σ0 Θ D (k a τ)) (EXC K ca W σ Θ) := by
  cases r with
  | ok a τ => exact h
  | exc c v τ => exact fun d x H g e => h d x σ H g ag e
  | bad => exact h
theorem S_whl {sb : Ss} {bb : List Stmt} (hp : PassesOwn (model X.prog X.w) X.A X.env X.xe) (hc : PT X ec (tT X.K ca W (evB cl c))) (hb : PSs X bb (tS X.K ca W fx (evSs cl sb))) : PS X (.While ec bb [] pos) (tS X.K ca W fx (evS cl (.whl c sb))) := by
  refine PS.imp (ps_while hp hc hb) fun D σ H ⟨τ, Θ, o, z⟩ => ?_
  simp only [evS] at z
  generalize hst : (fun τ => EV.rb (evB cl c τ) fun k τ => if k = true then evSs cl sb τ else SRes.bk τ) = st at z
  have hne : whileC st τ ≠ .bad := fun e => by rw [e] at z; exact z
  obtain ⟨n, hn, he⟩ := whileC_fuel hne
  rw [he] at z
  refine ⟨fun m σ' H' => ∃ τ, Ow X.K ca τ σ' Θ H' ∧ Agr fx σ σ' ∧ SOut X.K ca W fx σ Θ D (whileF st m τ), ⟨n, τ, o, .rfl, z⟩, ?_⟩
  rintro m σ1 H1 ⟨τ1, o1, ag, z1⟩
  cases m with
  | zero => exact z1.elim
  | succ m =>
    have z1 : SOut X.K ca W fx σ Θ D (thenW (st τ1) (whileF st m)) := z1
    have e : st τ1 = EV.rb (evB cl c τ1) fun k τ => if k = true then evSs cl sb τ else SRes.bk τ := by rw [← hst]
    rw [e, thenW_rb] at z1
    refine tT.use o1 (z1.rb' ag) fun k τ2 H2 p o2 => ?_
    cases k with
    | true =>
      refine ⟨fun σ' H' => ∃ τ, Ow X.K ca τ σ' Θ H' ∧ Agr fx σ σ' ∧ SOut X.K ca W fx σ Θ D (whileF st m τ), fun σ' H' q => ⟨m, Nat.lt_succ_self _, q⟩, τ2, Θ, o2, ?_⟩
      exact SOut.turn (k := whileF st m) p ag fun τ3 σ3 H3 o3 ag3 q3 => ⟨τ3, o3, ag3, q3⟩
    | false => exact p σ1 H2 o2 ag
theorem S_for {g : Tg} {it : EV.It} {sb : Ss} {bb : List Stmt} (hp : PassesOwn (model X.prog X.w) X.A X.env X.xe) (hc : X.calm = true) (hi : PI X tg iter (tI X.K ca W (evI cl it))) (hg : PG X tg (tG X.K ca g)) (hb : PSs X bb (tS X.K ca W fx (evSs cl sb)))
    (hd : ∀ i ∈ tgs g, i ∉ fx) (hs : ∀ x, foldedSetIterable iter X.env x = pure x) : PS X (.For tg iter bb [] pos) (tS X.K ca W fx (evS cl (.for_ g it sb))) := by
  refine PS.imp (ps_for hp hc hi hg hb hs) fun D σ H ⟨τ, Θ, o, z⟩ => ?_
  simp only [evS] at z
  generalize hst : (fun t τ => match asgT g t τ with
    | some τ => evSs cl sb τ
    | none => SRes.bad) = st at z
  refine ⟨τ, Θ, o, z.rb.imp (fun items τ1 z1 J Θ' H1 f1 s1 wk => ?_) fun _ _ _ w => w⟩
  refine for_it wk.walk (fun i σ' H' => ∃ τ, Ow X.K ca τ σ' (Θ' ++ Θ) H' ∧ Agr fx σ σ' ∧ SOut X.K ca W fx σ (Θ' ++ Θ) D (forGo st (items.drop i) τ)) ⟨τ1, ⟨f1, s1⟩, .rfl, z1.up⟩ ?_ ?_ ?_
  · rintro i σ' H' hi ⟨τ, o, _, _⟩
    refine ⟨prs τ σ' ++ Θ, o.sp.perm ?_⟩
    rw [List.append_assoc]
    exact List.Perm.append_left _ List.perm_append_comm
  · rintro i x σ' H' H'' hi ⟨τ, o, ag, z⟩ y
    obtain ⟨t, et, s3⟩ := wk.yields i H' x H'' (prs τ σ' ++ Θ) hi (o.sp.perm (by
      rw [List.append_assoc]
      exact List.Perm.append_left _ List.perm_append_comm)) y
    rw [drop_cons et] at z
    have z : SOut X.K ca W fx σ (Θ' ++ Θ) D (thenW (st t τ) (forGo st (items.drop (i + 1)))) := z
    have e : st t τ = (match asgT g t τ with
      | some τ => evSs cl sb τ
      | none => SRes.bad) := by rw [← hst]
    rw [e] at z
    cases hg : asgT g t τ with
    | none => rw [hg] at z; exact z.elim
    | some τ2 =>
      rw [hg] at z
      refine ⟨t, τ, τ2, Θ' ++ Θ, o.fit, ?_, hg, fun σ2 f2 s4 ag2 ln => ⟨τ2, Θ' ++ Θ, ⟨f2, s4⟩, ?_⟩⟩
      · refine s3.perm (List.Perm.cons _ ?_)
        rw [List.append_assoc]
        exact List.Perm.append_left _ List.perm_append_comm
      · have ag3 : Agr fx σ σ2 := ag.trans fun j hj => ag2 j fun z => hd j z hj
        exact SOut.turn (k := forGo st (items.drop (i + 1))) z ag3 fun τ3 σ3 H3 o3 ag4 q3 => ⟨τ3, o3, ag4, q3⟩
  · rintro σ' H' ⟨τ, o, ag, z⟩
    rw [List.drop_length] at z
    exact z σ' H' o ag
end
end EV
set_option Elab.async false
set_option linter.all false
set_option maxRecDepth 100000
set_option maxHeartbeats 1000000
namespace EV
open PySem PySem.Spec L2
open PyProof.Rows hiding St
/-! ### defs -/
def finG (fx : List Nat) : Nat → Nat → Env → List (Option T)
  | _, 0, _ => []
  | i, n + 1, τ => (if i ∈ fx then τ.at i else none) :: finG fx (i + 1) n τ
def entry (m : Nat) (ts : List T) : Env := ts.map some ++ List.replicate (m - ts.length) none
/-- a def's body as a function: n parameters, m names; fx: the parameters that are never set anew -/
noncomputable def evFn (cl : Call) (n m : Nat) (fx : List Nat) (body : Ss) : List T → FRes := fun ts =>
  if ts.length = n then match evSs cl body (entry m ts) with
    | .nx τ => .ok (.im .non) (finG fx 0 n τ)
    | .rt t τ => .ok t (finG fx 0 n τ)
    | .exc c v τ => .exc c v (finG fx 0 n τ)
    | _ => .bad
  else .bad
section
variable {X : Cx} {ca : Nat → Addr} {W : WX} {pk : Bool} {cl : Call}
variable {τ τ' : Env} {σ σ' σ0 : L2.St} {Θ Θ' : Prs} {H H' : Hp} {t u : T} {v x : V} {K : PySem.W.Frag} {fx : List Nat} {D D' : Ends}
theorem finG_skip : ∀ {n i j : Nat} {τ : Env} {o : Option T}, j < i → finG fx i n (τ.set j o) = finG fx i n τ
  | 0, _, _, _, _, _ => rfl
  | n + 1, i, j, τ, o, h => by
    simp only [finG]
    have e : Env.at (τ.set j o) i = τ.at i := by rw [at_set, if_neg (fun z : j = i ∧ _ => by have := z.1; omega)]
    rw [finG_skip (by omega), e]
theorem fin_sub : ∀ {n i : Nat} {τ : Env} {vs : List V} {R : Prs}, vs.length = n → Fits τ σ → (∀ j, j < n → i + j ∈ fx → σ[i + j]? = vs[j]?.map some) → Sp K ca H (R ++ (prs τ σ ++ Θ)) [] → Sp K ca H (R ++ (pz (finG fx i n τ) vs ++ Θ)) []
  | 0, i, τ, vs, R, hl, f, hv, sp => by
    have : vs = [] := by cases vs <;> simp at hl ⊢
    subst this
    have : Sp K ca H (prs τ σ ++ (R ++ Θ)) [] := sp.perm perm3
    exact this.drop
  | n + 1, i, τ, [], R, hl, f, hv, sp => by simp at hl
  | n + 1, i, τ, v :: vs, R, hl, f, hv, sp => by
    simp only [finG]
    have hv' : ∀ j, j < n → (i + 1) + j ∈ fx → σ[(i + 1) + j]? = vs[j]?.map some := fun j hj hm => by
      have := hv (j + 1) (by omega) (by rw [show i + (j + 1) = i + 1 + j by omega]; exact hm)
      rw [show i + (j + 1) = i + 1 + j by omega] at this
      simpa using this
    have go : ∀ τ2 : Env, Fits τ2 σ → finG fx (i + 1) n τ2 = finG fx (i + 1) n τ → ∀ R, Sp K ca H (R ++ (prs τ2 σ ++ Θ)) [] → Sp K ca H (R ++ (pz (finG fx (i + 1) n τ) vs ++ Θ)) [] := fun τ2 f2 e R s2 => by
      rw [← e]
      exact fin_sub (n := n) (by simpa using hl) f2 hv' s2
    by_cases hi : i ∈ fx
    · rw [if_pos hi]
      cases ht : τ.at i with
      | none => exact go τ f rfl R sp
      | some t =>
        have hσ : σ[i]? = some (some v) := by simpa using hv 0 (by omega) (by simpa using hi)
        have s2 : Sp K ca H ((R ++ [(t, v)]) ++ (prs (τ.set i none) σ ++ Θ)) [] := by
          refine sp.perm ?_
          have p1 := ((prs_out ht hσ).append_right Θ).append_left R
          simpa using p1
        have := go (τ.set i none) (f.setN i) (finG_skip (by omega)) (R ++ [(t, v)]) s2
        simpa [pz] using this
    · rw [if_neg hi]
      exact go τ f rfl R sp
theorem prs_rep : ∀ {n m : Nat}, prs (List.replicate n none) (List.replicate m none) = []
  | 0, m => by simp [prs]
  | n + 1, 0 => by simp [prs]
  | n + 1, m + 1 => by
    rw [List.replicate_succ, List.replicate_succ]
    exact prs_rep
theorem prs_entry : ∀ {ts : List T} {vs : List V} {n m : Nat}, ts.length = vs.length → prs (ts.map some ++ List.replicate n none) (vs.map some ++ List.replicate m none) = ts.zip vs
  | [], [], n, m, _ => by simp [prs_rep]
  | [], _ :: _, _, _, h => by simp at h
  | _ :: _, [], _, _, h => by simp at h
  | t :: ts, v :: vs, n, m, h => by
    show (t, v) :: prs (ts.map some ++ _) (vs.map some ++ _) = _
    rw [prs_entry (by simpa using h)]
    rfl
theorem start_get {N : List Str} {vs : List V} {i : Nat} (hi : i < vs.length) : (L2.start N vs)[i]? = some (some vs[i]) := by
  unfold L2.start
  rw [List.getElem?_append_left (by simpa using hi)]
  simp [hi]
theorem fits_entry {N : List Str} {ts : List T} {vs : List V} (h : ts.length = vs.length) (hN : vs.length ≤ N.length) : Fits (entry N.length ts) (L2.start N vs) := by
  refine ⟨by unfold entry L2.start; simp [h], fun i t e => ?_⟩
  have hi : i < ts.length := by
    unfold entry Env.at at e
    by_cases hi : i < ts.length
    · exact hi
    · rw [List.getElem?_append_right (by simpa using hi), List.getElem?_replicate] at e
      split at e <;> cases e
  exact ⟨vs[i]'(by omega), start_get (by omega)⟩
variable {P : Program} {w : World} {mg : Str → Option Value} {base : Heap}
/-- a def of the text keeps its promise -/
theorem fn_ev {nm qual : Str} {st : Stmt} {f : Addr} {fd : FuncData} {N ps : List Str} {k : Nat} {cl : Call} {body : Ss} (F : FunD K nm qual (defArgs st) (defBody st) (defScope st) [] [] f fd) (S : FnScope N ps (defScope st)) (hfx : ∀ i ∈ fx, i < ps.length)
    (hb : ∀ (cdv : Value) (A : Around) (outer : List PySem.Env) (s : Shared) (H : Hp) (E : XK), A.guards = some [] → Room k (A.deeper (envOfC qual (defScope st) s.heap.objs.size f cdv)) →
      PSs (cxOf (CX P w) P w K mg base N qual (defScope st) f cdv A outer s H E) (defBody st) (tS K ca (fun cls d _ H => E cls d H) fx (evSs cl body))) :
    FnG P w K mg base (k + 1) f fd ps (spEV K ca (evFn cl ps.length N.length fx body) ps.length) := by
  refine fnG_of F S (fun vs H Q E h => h.1) fun cdv A outer s H vs Q E gu hr h => ⟨_, hb cdv A outer s H E gu hr, ?_⟩
  obtain ⟨hl, ts, Θ, n, sp, z⟩ := h
  have hN : vs.length ≤ N.length := by
    have := congrArg List.length S.pre
    rw [List.length_take] at this
    omega
  refine ⟨entry N.length ts, Θ, ⟨fits_entry n hN, by unfold entry L2.start; rw [prs_entry n]; exact sp⟩, ?_⟩
  unfold evFn at z
  rw [if_pos (by rw [n, hl])] at z
  have key : ∀ (τ : Env) (σ : L2.St) (H' : Hp) (t : T) (v : V), Got K ca false τ σ Θ H' t v → Agr fx (L2.start N vs) σ → Sp K ca H' ((t, v) :: (pz (finG fx 0 ps.length τ) vs ++ Θ)) [] := fun τ σ H' t v g ag => by
    refine fin_sub (R := [(t, v)]) hl g.fit (fun j hj hm => ?_) g.keep
    have hm' : j ∈ fx := by simpa using hm
    have := ag j hm'
    rw [Nat.zero_add, this, start_get (by omega)]
    simp [show j < vs.length by omega]
  cases e : evSs cl body (entry N.length ts) with
  | nx τ =>
    rw [e] at z
    intro σ H' o ag
    exact z .non H' (key τ σ H' _ _ (.of o.fit (o.sp.giveN)) ag)
  | rt t τ =>
    rw [e] at z
    intro v σ H' g ag
    exact z v H' (key τ σ H' _ _ g ag)
  | exc c a τ =>
    rw [e] at z
    intro d x σ H' g ag hd
    exact z d x H' (key τ σ H' _ _ g ag) hd
  | bk τ => rw [e] at z; exact z.elim
  | ct τ => rw [e] at z; exact z.elim
  | bad => rw [e] at z; exact z.elim
end
/-! ### the table of all defs -/
def callK (tab : Nat → Call → List T → FRes) : Nat → Call
  | 0 => fun _ _ => .bad
  | k + 1 => fun f => tab f (callK tab k)
end EV
set_option Elab.async false
set_option linter.all false
set_option maxRecDepth 100000
set_option maxHeartbeats 4000000
namespace EV
open PySem PySem.Spec L2
open PyProof.Rows hiding St
/-! ### the check: this expression is that one -/
/-- what the text's names mean: the defs (with how many parameters), the constants -/
structure Gi where
  fn : List (Str × Nat)
  val : List (Str × D)
  /-- the error classes -/
  exc : List Str
  /-- their names, as repr has them -/
  nms : List Str
  /-- a class, and which of them are below it -/
  sub : List (Str × List Bool)
def noStar : Expr → Bool
  | .Starred _ _ => false
  | _ => true
def notSet : Expr → Bool
  | .Set _ _ _ => false
  | _ => true
def plainB : Expr → Bool
  | .Slice _ _ _ _ => false
  | _ => true
def glB (sc : Scope) (x : Str) : Bool := decide (sc.names.lookup x = some .globalImplicit) && !(x == ("__debug__" : Str)) && !decide (x = ("__name__" : Str))
def visB (N : List Str) (sc : Scope) (i : Nat) (x : Str) : Bool := decide (N[i]? = some x) && (decide (sc.names.lookup x = some .local) || decide (sc.names.lookup x = some .cell) || decide (sc.names.lookup x = some .free)) && !(x == ("__debug__" : Str)) && !(x == ("__classdict__" : Str))
def bis : Bi → String
  | .len => "len"
  | .int => "int"
  | .abs => "abs"
  | .min => "min"
  | .max => "max"
  | .sum => "sum"
  | .all => "all"
  | .any => "any"
  | .list => "list"
  | .tuple => "tuple"
  | _ => "__debug__"
def musB : Mu → Option Str
  | .append => some "append"
  | .extend => some "extend"
  | .pop => some "pop"
  | _ => none
def okC : D → Expr → Bool
  | .non, .Constant .none _ _ => true
  | .bl b, .Constant (.bool c) _ _ => b == c
  | .int i, .Constant (.int j) _ _ => decide (i = j)
  | .str s, .Constant (.str t) _ _ => decide (s = t)
  | _, _ => false
def tst : E → Bool
  | .ife _ _ _ => false
  | .fz _ => false
  | .nt a => tst a
  | .and_ a b => tst a && tst b
  | .or_ a b => tst a && tst b
  | _ => true
def esLen : Es → Nat
  | .nil => 0
  | .one _ r => esLen r + 1
  | .star _ r => esLen r + 1
def okG (N : List Str) (sc : Scope) (top : Bool) : Tg → Expr → Bool
  | .n i, .Name x _ => decide (N[i]? = some x) && (decide (sc.names.lookup x = some .local) || (top && decide (sc.names.lookup x = some .cell)))
  | .tup a b, .Tuple [x, y] _ _ => okG N sc top a x && okG N sc top b y && noStar x && noStar y
  | .tup3 a b c, .Tuple [x, y, z] _ _ => okG N sc top a x && okG N sc top b y && okG N sc top c z && noStar x && noStar y && noStar z
  | _, _ => false
def ownN (N : List Str) (own : List Nat) : List (Str × Nat) := own.filterMap fun i => N[i]?.map fun x => (x, i)
def ownB (N : List Str) (sc scope : Scope) (g : Tg) (own : List Nat) : Bool :=
  decide ((ownN N own).map (·.2) = own) && blkC N sc scope (ownN N own) && decide own.Nodup && (tgs g).all fun i => decide (i ∈ own)
/-- a display of constants -/
def okK : List (D × D) → List (Option Expr) → List Expr → Bool
  | [], ks, vs => ks.isEmpty && vs.isEmpty
  | p :: r, ks, vs => match ks, vs with
    | some x :: ks, y :: vs => okC p.1 x && okC p.2 y && isLeaf p.1 && okK r ks vs
    | _, _ => false
/-- what .value may be asked of -/
def atB : Expr → Bool
  | .Name _ _ => true
  | .Subscript _ _ _ => true
  | _ => false
mutual
def okE (gi : Gi) (N : List Str) (sc : Scope) : E → Expr → Bool
  | .c d, e => okC d e
  | .g nm t, e => match e with
    | .Name x _ => decide (x = nm) && glB sc x && (match t with
      | .im d => decide ((nm, d) ∈ gi.val)
      | _ => false)
    | _ => false
  | .v i, e => match e with
    | .Name x _ => visB N sc i x
    | _ => false
  | .mv i, e => match e with
    | .Name x _ => visB N sc i x
    | _ => false
  | .tup es, e => match e with
    | .Tuple xs _ _ => okL gi N sc es xs
    | _ => false
  | .lst es, e => match e with
    | .List xs _ => okL gi N sc es xs
    | _ => false
  | .dic _, e => match e with
    | .Dict [] [] _ => true
    | _ => false
  | .bin o a b, e => match e with
    | .BinOp x op y _ => decide (op = bop o) && okE gi N sc a x && okE gi N sc b y
    | _ => false
  | .neg a, e => match e with
    | .UnaryOp op x _ => decide (op = .USub) && okE gi N sc a x
    | _ => false
  | .nt a, e => match e with
    | .UnaryOp op x _ => decide (op = .Not) && okE gi N sc a x
    | _ => false
  | .cmp o a b, e => match e with
    | .Compare x [op] [y] _ => decide (op = cop o) && okE gi N sc a x && okE gi N sc b y && !behindInMarks op y
    | _ => false
  | .chn o p a b c, e => match e with
    | .Compare x [op, op'] [y, z] _ => decide (op = cop o) && decide (op' = cop p) && okE gi N sc a x && okE gi N sc b y && okE gi N sc c z && !lastMarks [op, op'] [y, z]
    | _ => false
  | .isN q a, e => match e with
    | .Compare x [op] [.Constant .none _ _] _ => decide (op = if q then .IsNot else .Is) && okE gi N sc a x
    | _ => false
  | .and_ a b, e => match e with
    | .BoolOp .And (x :: y :: rest) p => okE gi N sc a x && (match rest with
      | [] => okE gi N sc b y
      | z :: rest => okE gi N sc b (.BoolOp .And (y :: z :: rest) p))
    | _ => false
  | .or_ a b, e => match e with
    | .BoolOp .Or (x :: y :: rest) p => okE gi N sc a x && (match rest with
      | [] => okE gi N sc b y
      | z :: rest => okE gi N sc b (.BoolOp .Or (y :: z :: rest) p))
    | _ => false
  | .ife t a b, e => match e with
    | .IfExp c x y _ => okE gi N sc t c && tst t && okE gi N sc a x && okE gi N sc b y
    | _ => false
  | .idx a b, e => match e with
    | .Subscript x y _ => okE gi N sc a x && okE gi N sc b y && plainB y && (!quiet b || (quietTE b).isSome)
    | _ => false
  | .slc a lo hi, e => match e with
    | .Subscript x (.Slice l h none _) _ => okE gi N sc a x && okO gi N sc lo l && okO gi N sc hi h
    | _ => false
  | .rev a, e => match e with
    | .Subscript x (.Slice none none (some (.UnaryOp .USub (.Constant (.int 1) _ _) _)) _) _ => okE gi N sc a x
    | _ => false
  | .isi a ty, e => match e with
    | .Call (.Name f _) [x, .Name t _] [] _ => decide (f = ("isinstance" : Str)) && glB sc f && decide (t = Str.ofString (tyS ty)) && glB sc t && okE gi N sc a x && noStar x
    | _ => false
  | .call f es, e => match e with
    | .Call (.Name x _) xs [] _ => glB sc x && decide (gi.fn[f]? = some (x, esLen es)) && okA gi N sc es xs
    | _ => false
  | .bi b es, e => match e with
    | .Call (.Name x _) xs [] _ => decide (x = Str.ofString (bis b)) && glB sc x && okA gi N sc es xs && !xs.isEmpty
    | _ => false
  | .lrg it, e => match e, it with
    | .Call (.Name l _) [.Call (.Name r _) [x] [] _] [] _, .rg1 a => decide (l = ("list" : Str)) && glB sc l && decide (r = ("range" : Str)) && glB sc r && okE gi N sc a x && noStar x
    | _, _ => false
  | .me _ _ _, _ => false
  | .mu m i es, e => match e with
    | .Call (.Attribute (.Name x _) nm ap) xs [] cp => visB N sc i x && decide (musB m = some nm) && (ap.endLine == cp.line) && okL gi N sc es xs && xs.all noStar && decide (xs.length < 25)
    | _ => false
  | .fld _ _, _ => false
  | .new _ _ _, _ => false
  | .lc a g it ifs own, e => match e with
    | .ListComp x [⟨tg, iter, ifx, 0⟩] scope _ => ownB N sc scope g own && okI gi N sc it tg iter && okG N (relS scope sc) false g tg && okF gi N (relS scope sc) ifs ifx && okE gi N (relS scope sc) a x && notSet iter
    | _ => false
  | .dc k ke ve g it ifs own, e => match e with
    | .DictComp x y [⟨tg, iter, ifx, 0⟩] scope _ => !k && ownB N sc scope g own && okI gi N sc it tg iter && okG N (relS scope sc) false g tg && okF gi N (relS scope sc) ifs ifx && okE gi N (relS scope sc) ke x && okE gi N (relS scope sc) ve y && notSet iter
    | _ => false
  | .fz a, e => okE gi N sc a e
  | .mkx c a, e => match e with
    | .Call (.Name x _) [y] [] _ => glB sc x && decide (gi.exc[c]? = some x) && okE gi N sc a y && noStar y
    | _ => false
  | .vof m a, e => match e with
    | .Attribute x f _ => decide (f = ("value" : Str)) && decide (m ≤ gi.exc.length) && atB x && okE gi N sc a x
    | _ => false
  | .isx a nm cs, e => match e with
    | .Call (.Name f _) [x, .Name t _] [] _ => decide (f = ("isinstance" : Str)) && glB sc f && decide (t = nm) && glB sc t && decide ((nm, cs) ∈ gi.sub) && okE gi N sc a x && noStar x
    | _ => false
  | .dk kvs, e => match e with
    | .Dict ks vs _ => okK kvs ks vs && !ks.isEmpty && decide (ks.length ≤ 15)
    | _ => false
  | .rp nms a, e => match e with
    | .Call (.Name f _) [x] [] _ => decide (f = ("repr" : Str)) && glB sc f && decide (nms = gi.nms) && okE gi N sc a x && noStar x
    | _ => false
/-- items, some with a star -/
def okL (gi : Gi) (N : List Str) (sc : Scope) : Es → List Expr → Bool
  | .nil, xs => xs.isEmpty
  | .one e r, xs => match xs with
    | x :: xs => okE gi N sc e x && noStar x && okL gi N sc r xs
    | _ => false
  | .star e r, xs => match xs with
    | .Starred x _ :: xs => okE gi N sc e x && okL gi N sc r xs
    | _ => false
/-- arguments, none with a star -/
def okA (gi : Gi) (N : List Str) (sc : Scope) : Es → List Expr → Bool
  | .nil, xs => xs.isEmpty
  | .one e r, xs => match xs with
    | x :: xs => okE gi N sc e x && noStar x && okA gi N sc r xs
    | _ => false
  | .star _ _, _ => false
def okO (gi : Gi) (N : List Str) (sc : Scope) : Eo → Option Expr → Bool
  | .none, e => e.isNone
  | .some a, e => match e with
    | some x => okE gi N sc a x
    | none => false
def okF (gi : Gi) (N : List Str) (sc : Scope) : Eo → List Expr → Bool
  | .none, e => e.isEmpty
  | .some a, e => match e with
    | [x] => okE gi N sc a x && tst a
    | _ => false
/-- what is walked; tg: where its items go -/
def okI (gi : Gi) (N : List Str) (sc : Scope) : It → Expr → Expr → Bool
  | .e a, _, e => okE gi N sc a e
  | .rg1 a, _, e => match e with
    | .Call (.Name r _) [x] [] _ => decide (r = ("range" : Str)) && glB sc r && okE gi N sc a x && noStar x
    | _ => false
  | .rg2 a b, _, e => match e with
    | .Call (.Name r _) [x, y] [] _ => decide (r = ("range" : Str)) && glB sc r && okE gi N sc a x && okE gi N sc b y && noStar x && noStar y
    | _ => false
  | .enum a, tg, e => match e, tg with
    | .Call (.Name r _) [x] [] _, .Tuple _ _ _ => decide (r = ("enumerate" : Str)) && glB sc r && okE gi N sc a x && noStar x
    | _, _ => false
  | .zip a b, tg, e => match e, tg with
    | .Call (.Name r _) [x, y] [] _, .Tuple _ _ _ => decide (r = ("zip" : Str)) && glB sc r && okE gi N sc a x && okE gi N sc b y && noStar x && noStar y
    | _, _ => false
  | _, _, _ => false
end
end EV
set_option Elab.async false
set_option linter.all false
set_option maxRecDepth 100000
set_option maxHeartbeats 4000000
namespace EV
open PySem PySem.Spec L2
open PyProof.Rows hiding St
def btNames : List Str := ["len", "int", "abs", "min", "max", "sum", "all", "any", "list", "tuple", "isinstance", "bool", "str", "dict", "range", "enumerate", "zip", "super", "repr", "ValueError"].map Str.ofString
/-- which of the error classes are below the one called nm -/
def SubAt (K : PySem.W.Frag) (ca : Nat → Addr) (mg : Str → Option Value) (nm : Str) (cs : List Bool) : Prop :=
  (∃ C, mg nm = some (.ref C) ∧ ∀ n b, cs[n]? = some b → ExcC K (ca n) ∧ PySem.W.kitOne K (.ref (ca n)) (.ref C) = some b) ∨
    (nm = "ValueError" ∧ ∀ n b, cs[n]? = some b → ExcC K (ca n) ∧ PySem.W.kitOne K (.ref (ca n)) (.type "ValueError") = some b)
structure GoodX (X : Cx) (ca : Nat → Addr) (cl : Call) (W : WX) (gi : Gi) (N : List Str) (sc : Scope) (top : Bool) : Prop where
  hN : X.N = N
  nd : N.Nodup
  hsc : X.env.scope = sc
  calm : X.calm = true
  fnl : top = true → ∀ x, X.fn x = true
  hu : X.A.units + 150 < cLine
  gu : X.A.guards = some []
  ro : Room 0 X.A
  bt : ∀ x ∈ btNames, X.mg x = none
  tk : Takes X W
  fn : ∀ f nm n, gi.fn[f]? = some (nm, n) → FnE X ca (cl f) n nm
  val : ∀ nm d, (nm, d) ∈ gi.val → ∃ v u, X.mg nm = some u ∧ RelV v u ∧ ∀ ps H, Sp X.K ca H ps [] → Sp X.K ca H ((.im d, v) :: ps) []
  exn : ∀ c nm, gi.exc[c]? = some nm → JExc X.prog X.K (ca c) ∧ X.mg nm = some (.ref (ca c))
  nms : ∀ c nm, gi.nms[c]? = some nm → RpC X.K (ca c) nm
  vof : ∀ c, c < gi.exc.length → XfC X.K (ca c) ∧ PySem.W.findIn X.K (.ref (ca c)) "value" = some none
  sub : ∀ nm cs, (nm, cs) ∈ gi.sub → SubAt X.K ca X.mg nm cs
section
variable {X : Cx} {ca : Nat → Addr} {W : WX} {pk : Bool} {cl : Call} {gi : Gi} {N : List Str} {sc : Scope} {top : Bool} {pos p p1 p2 p3 apos cpos : Pos}
/-! ### small things about the text -/
theorem starEach_ok {e : Expr} {es : List Expr} {env : PySem.Env} (h : noStar e = true) : starEach (e :: es) env = (false, eval e env) :: starEach es env := by
  cases e <;> first | rfl | (simp [noStar] at h)
theorem backTo_ok {es : List Expr} {env : PySem.Env} (h : es.all noStar = true) : (backTo pos (starEach es env)).any (·.1) = false := by
  induction es with
  | nil => rfl
  | cons e es ih =>
    have h' : noStar e = true ∧ es.all noStar = true := by simpa using h
    rw [starEach_ok h'.1]
    show (false || (backTo pos (starEach es env)).any (·.1)) = false
    rw [ih h'.2]
    rfl
theorem plain_ok {e : Expr} (h : plainB e = true) : PlainIx e := fun o i => by
  cases e <;> first | rfl | (simp [plainB] at h)
theorem folded_ok {e : Expr} {env : PySem.Env} (h : notSet e = true) (x : Value) : foldedSetIterable e env x = pure x := by
  cases e <;> first | rfl | (simp [notSet] at h)
theorem assignEach_ok {e : Expr} {es : List Expr} {env : PySem.Env} (h : noStar e = true) : assignEach (e :: es) env = (false, assign e env) :: assignEach es env := by
  cases e <;> first | rfl | (simp [noStar] at h)
theorem gl_ok {x : Str} (G : GoodX X ca cl W gi N sc top) (h : glB sc x = true) : Gl X x ∧ (x == ("__debug__" : Str)) = false ∧ x ≠ "__name__" := by
  unfold glB at h
  simp only [Bool.and_eq_true, decide_eq_true_eq, Bool.not_eq_true', decide_eq_false_iff_not] at h
  refine ⟨?_, h.1.2, h.2⟩
  show X.env.scope.names.lookup x = some .globalImplicit
  rw [G.hsc]
  exact h.1.1
theorem vis_ok {x : Str} {i : Nat} (G : GoodX X ca cl W gi N sc top) (h : visB N sc i x = true) : PE X (.Name x pos) (tVar i) := by
  unfold visB at h
  simp only [Bool.and_eq_true, Bool.or_eq_true, decide_eq_true_eq, Bool.not_eq_true'] at h
  obtain ⟨⟨⟨h1, h2⟩, h3⟩, h4⟩ := h
  refine pe_var (by rw [G.hN]; exact h1) ?_ h3 h4
  show Vis X.env.scope x
  rw [G.hsc]
  rcases h2 with (h2 | h2) | h2
  · exact .inl h2
  · exact .inr (.inl h2)
  · exact .inr (.inr h2)
theorem okC_ok {d : D} {e : Expr} (h : okC d e = true) : ∃ v, cV d = some v ∧ PE X e (tC v) := by
  unfold okC at h
  split at h
  · exact ⟨_, rfl, pe_non⟩
  · obtain rfl := eq_of_beq h
    exact ⟨_, rfl, pe_bl⟩
  · obtain rfl := of_decide_eq_true h
    exact ⟨_, rfl, pe_int⟩
  · obtain rfl := of_decide_eq_true h
    exact ⟨_, rfl, pe_str⟩
  · cases h
theorem okG_ok : ∀ {g : Tg} {e : Expr}, GoodX X ca cl W gi N sc top → okG N sc top g e = true → PG X e (tG X.K ca g)
  | .n i, e, G, h => by
    unfold okG at h
    split at h
    · rename_i x _ hh
      cases hh
      simp only [Bool.and_eq_true, Bool.or_eq_true, decide_eq_true_eq] at h
      refine G_n (pg_name (by rw [G.hN]; exact G.nd) (by rw [G.hN]; exact h.1) ?_ ?_)
      · show Loc X.env.scope x
        rw [G.hsc]
        rcases h.2 with z | z
        · exact .inl z
        · exact .inr z.2
      · rw [G.hsc]
        rcases h.2 with z | z
        · exact .inr z
        · exact .inl (G.fnl z.1 x)
    · rename_i hh; cases hh
    · rename_i hh; cases hh
    · cases h
  | .tup a b, e, G, h => by
    unfold okG at h
    split at h
    · rename_i hh; cases hh
    · rename_i x y _ _ hh
      cases hh
      simp only [Bool.and_eq_true] at h
      obtain ⟨⟨⟨h1, h2⟩, h3⟩, h4⟩ := h
      exact G_tup G.calm (okG_ok G h1) (okG_ok G h2) (by rw [assignEach_ok h3]; rfl) (by rw [assignEach_ok h4]; rfl) (by rw [assignEach_ok h3, assignEach_ok h4]; rfl) (by rw [assignEach_ok h3, assignEach_ok h4]; rfl)
    · rename_i hh; cases hh
    · cases h
  | .tup3 a b c, e, G, h => by
    unfold okG at h
    split at h
    · rename_i hh; cases hh
    · rename_i hh; cases hh
    · rename_i x y z _ _ hh
      cases hh
      simp only [Bool.and_eq_true] at h
      obtain ⟨⟨⟨⟨⟨h1, h2⟩, h0⟩, h3⟩, h4⟩, h5⟩ := h
      exact G_tup3 G.calm (okG_ok G h1) (okG_ok G h2) (okG_ok G h0) (by rw [assignEach_ok h3]; rfl) (by rw [assignEach_ok h4]; rfl) (by rw [assignEach_ok h5]; rfl)
        (by rw [assignEach_ok h3, assignEach_ok h4, assignEach_ok h5]; rfl) (by rw [assignEach_ok h3, assignEach_ok h4, assignEach_ok h5]; rfl)
    · cases h
/-- the context of a comprehension -/
theorem GoodX.blk {s : Shared} {H : Hp} {scope : Scope} {C : Addr} {cel : List (Str × Addr)} {fp : List Addr} (G : GoodX X ca cl W gi N sc top) : GoodX (X.blk s H scope (compEnvC scope cel C X.env) fp) ca cl WF gi N (relS scope sc) false where
  hN := G.hN
  nd := G.nd
  hsc := by
    show relabel scope X.env = relS scope sc
    rw [← G.hsc]
    rfl
  calm := G.calm
  fnl := fun h => by cases h
  hu := G.hu
  gu := G.gu
  ro := G.ro
  bt := G.bt
  tk := takesF
  fn := fun f nm n h => ⟨(G.fn f nm n h).ex⟩
  val := G.val
  exn := G.exn
  nms := G.nms
  vof := G.vof
  sub := G.sub
theorem okK_ok : ∀ {kvs : List (D × D)} {ks : List (Option Expr)} {vs : List Expr}, okK kvs ks vs = true → ∃ (kk : List Key) (xs : List V), kvs.map (·.1) = kk.map kD ∧ kk.length = xs.length ∧ kvs.length = xs.length ∧ ks.all (·.isSome) = true ∧ ks.length = vs.length ∧ ks.length = kvs.length ∧
    (∀ ps H, Sp X.K ca H ps [] → Sp X.K ca H ((kvs.map fun p => T.im p.2).zip xs ++ ps) []) ∧ PPs X pos ks vs ((kk.zip xs).map fun p => (tC (kV p.1), tC p.2))
  | [], ks, vs, h => by
    unfold okK at h
    simp only [Bool.and_eq_true, List.isEmpty_iff] at h
    obtain ⟨rfl, rfl⟩ := h
    exact ⟨[], [], rfl, rfl, rfl, rfl, rfl, rfl, fun ps H sp => sp, pps_nil⟩
  | p :: kvs, ks, vs, h => by
    unfold okK at h
    split at h
    · rename_i x ks y vs
      simp only [Bool.and_eq_true] at h
      obtain ⟨⟨⟨h1, h2⟩, h3⟩, h4⟩ := h
      obtain ⟨kk, xs, e1, e2, e3, e4, e5, e6, e7, e8⟩ := okK_ok (kvs := kvs) h4
      obtain ⟨k, ek⟩ := kD_leaf h3
      obtain ⟨v1, w1, q1⟩ := okC_ok (X := X) h1
      obtain ⟨v2, w2, q2⟩ := okC_ok (X := X) h2
      have ev : v1 = kV k := by
        rw [ek] at w1
        cases k <;> (simp [kD, cV] at w1; exact w1.symm)
      subst ev
      refine ⟨k :: kk, v2 :: xs, by rw [List.map_cons, List.map_cons, e1, ek], by simp [e2], by simp [e3], by simp [e4], by simp [e5], by simp [e6], fun ps H sp => ?_, pps_cons q1 q2 e8⟩
      rw [List.map_cons, List.zip_cons_cons, List.cons_append]
      exact (e7 ps H sp).addD (cV_rep w2)
    · cases h
theorem bt_ok {s : String} (G : GoodX X ca cl W gi N sc top) (h : Str.ofString s ∈ btNames) : X.mg (Str.ofString s) = none := G.bt _ h
theorem bis_in {b : Bi} (h : bnm b ≠ .none) : Str.ofString (bis b) ∈ btNames := by
  cases b <;> first | (exact (h rfl).elim) | (unfold btNames; simp [bis])
theorem bis_boot {b : Bi} (h : bnm b ≠ .none) : bootBuiltins (Str.ofString (bis b)) = some (bnm b) := by
  cases b <;> first | (exact (h rfl).elim) | (decide +kernel)
theorem ty_boot {ty : Ty} : bootBuiltins (Str.ofString (tyS ty)) = some (.type (tyS ty)) := by
  cases ty <;> decide +kernel
theorem ty_in {ty : Ty} : Str.ofString (tyS ty) ∈ btNames := by
  cases ty <;> (unfold btNames; simp [tyS])
theorem bnm_kind {b : Bi} (h : bnm b ≠ .none) : (∃ id, bnm b = .builtin id) ∨ ∃ T, bnm b = .type T := by
  cases b <;> first | (exact (h rfl).elim) | exact .inl ⟨_, rfl⟩ | exact .inr ⟨_, rfl⟩
theorem in_list : Str.ofString "list" ∈ btNames := by unfold btNames; simp
theorem in_range : Str.ofString "range" ∈ btNames := by unfold btNames; simp
theorem in_enumerate : Str.ofString "enumerate" ∈ btNames := by unfold btNames; simp
theorem in_zip : Str.ofString "zip" ∈ btNames := by unfold btNames; simp
theorem in_repr : Str.ofString "repr" ∈ btNames := by unfold btNames; simp
theorem in_super : Str.ofString "super" ∈ btNames := by unfold btNames; simp
theorem in_ve : Str.ofString "ValueError" ∈ btNames := by unfold btNames; simp
theorem in_isinstance : Str.ofString "isinstance" ∈ btNames := by unfold btNames; simp
end
end EV
set_option Elab.async false
set_option linter.all false
set_option maxRecDepth 100000
set_option maxHeartbeats 4000000
namespace EV
open PySem PySem.Spec L2
open PyProof.Rows hiding St
section
variable {ca : Nat → Addr} {cl : Call} {gi : Gi}
theorem first_ok {X : Cx} {W : WX} {N : List Str} {sc : Scope} {top : Bool} {a : E} {e : Expr} (G : GoodX X ca cl W gi N sc top) (h : okE gi N sc a e = true) (hE : PE X e (tE X.K ca W false (evX cl false a))) : PE X e (firstTE X.K ca W cl a) := by
  unfold firstTE
  cases hv : isV a with
  | none => exact hE
  | some i =>
    obtain rfl := isV_some hv
    unfold okE at h
    split at h
    · exact vis_ok G h
    · cases h
theorem quiet_ok {X : Cx} {W : WX} {N : List Str} {sc : Scope} {top : Bool} {b : E} {e : Expr} (G : GoodX X ca cl W gi N sc top) (h : okE gi N sc b e = true) (hq : (quietTE b).isSome = true) : ∃ tq, quietTE b = some tq ∧ PE X e tq := by
  cases b with
  | c d =>
    unfold okE at h
    obtain ⟨v, h1, h2⟩ := okC_ok (X := X) h
    exact ⟨tC v, by simp [quietTE, h1], h2⟩
  | v i =>
    unfold okE at h
    split at h
    · exact ⟨_, rfl, vis_ok G h⟩
    · cases h
  | neg a =>
    cases a with
    | c d =>
      cases d with
      | int i =>
        unfold okE at h
        split at h
        · simp only [Bool.and_eq_true, decide_eq_true_eq] at h
          obtain ⟨rfl, h⟩ := h
          unfold okE at h
          obtain ⟨v, h1, h2⟩ := okC_ok (X := X) h
          simp only [cV, Option.some.injEq] at h1
          subst h1
          refine ⟨_, rfl, PE.imp (pe_un un_neg h2) fun σ H Q q => ⟨i, rfl, q⟩⟩
        · cases h
      | _ => simp [quietTE] at hq
    | _ => simp [quietTE] at hq
  | _ => simp [quietTE] at hq
theorem evA_len : ∀ {r : Es} {τ : Env} {as : List Arg} {τ' : Env}, evA cl r τ = .ok as τ' → as.length = esLen r
  | .nil, τ, as, τ', h => by simp only [evA] at h; cases h; rfl
  | .star _ _, τ, as, τ', h => by simp only [evA] at h; cases h
  | .one a r, τ, as, τ', h => by
    have key : ∀ {τ1 : Env} {x : Arg}, ((evA cl r τ1).bind fun as τ => Res.ok (x :: as) τ) = .ok as τ' → as.length = esLen (.one a r) := fun {τ1 x} h => by
      cases e : evA cl r τ1 with
      | ok as1 τ2 =>
        rw [e] at h
        cases h
        simp [esLen, evA_len (r := r) e]
      | exc c v τ2 => rw [e] at h; cases h
      | bad => rw [e] at h; cases h
    cases hv : isV a with
    | some i =>
      obtain rfl := isV_some hv
      rw [evA_v] at h
      split at h
      · split at h
        · exact key h
        · exact key h
      · cases h
    | none =>
      rw [evA_n hv] at h
      cases e : evX cl false a τ with
      | ok t τ1 => rw [e] at h; exact key h
      | exc c v τ2 => rw [e] at h; cases h
      | bad => rw [e] at h; cases h
theorem mus_ok {m : Mu} {nm : Str} (h : musB m = some nm) : mnm m ≠ "" ∧ m ≠ .update ∧ PySem.Slot "list" nm (mnm m) ∧ typeOf (.builtin (mnm m)) = pure (.type "method_descriptor") := by
  cases m <;> simp [musB] at h <;> subst h
  · exact ⟨by decide, by decide, PySem.F.slot_list_append, PySem.F.type_list_append⟩
  · exact ⟨by decide, by decide, PySem.F.slot_list_extend, PySem.F.type_list_extend⟩
  · exact ⟨by decide, by decide, PySem.F.slot_list_pop, PySem.F.type_list_pop⟩
theorem few_ok {e : Expr} {es : List Expr} {env : PySem.Env} {cpos : Pos} (h : (e :: es).all noStar = true) (hl : (e :: es).length < 25) :
    ((backTo cpos (starEach (e :: es) env)).all (fun x => !x.1) && (backToKw cpos (keywordEach [] env)).all (fun x => x.1.isSome) && decide ((e :: es).length + ([] : List Keyword).length + (if ([] : List Keyword).isEmpty then 0 else 1) < 30)) = true := by
  have h1 : ∀ l : List Expr, l.all noStar = true → (backTo cpos (starEach l env)).all (fun x => !x.1) = true := by
    intro l
    induction l with
    | nil => intro _; rfl
    | cons e es ih =>
      intro h
      have h' : noStar e = true ∧ es.all noStar = true := by simpa using h
      rw [starEach_ok h'.1]
      show (!false && (backTo cpos (starEach es env)).all (fun x => !x.1)) = true
      rw [ih h'.2]
      rfl
  have h2 : decide ((e :: es).length + ([] : List Keyword).length + (if ([] : List Keyword).isEmpty then 0 else 1) < 30) = true := by
    simp only [List.length_nil, List.isEmpty_nil, if_true, decide_eq_true_eq]
    omega
  rw [h1 _ h, h2]
  rfl
theorem own_ok {N : List Str} {sc scope : Scope} {g : Tg} {own : List Nat} (h : ownB N sc scope g own = true) : (ownN N own).map (·.2) = own ∧ BlkOk N sc scope (ownN N own) ∧ own.Nodup ∧ ∀ i ∈ tgs g, i ∈ own := by
  unfold ownB at h
  simp only [Bool.and_eq_true, decide_eq_true_eq, List.all_eq_true] at h
  exact ⟨h.1.1.1, blkOk_by h.1.1.2, h.1.2, h.2⟩
theorem okA_star {N : List Str} {sc : Scope} : ∀ {r : Es} {xs : List Expr}, okA gi N sc r xs = true → xs.all noStar = true
  | .nil, xs, h => by
    unfold okA at h
    have : xs = [] := by simpa using h
    rw [this]
    rfl
  | .one a r, xs, h => by
    unfold okA at h
    split at h
    · simp only [Bool.and_eq_true] at h
      simp [h.1.2, okA_star h.2]
    · cases h
  | .star a r, xs, h => by unfold okA at h; cases h
theorem bothE {X : Cx} {W : WX} {e : Expr} {a : E} (hE : ∀ pk, PE X e (tE X.K ca W pk (evX cl pk a))) (he : ∀ whole, isTrue e X.env whole = (do let v ← whole; standAt e.pos; holding [v] (truthy v))) :
    (∀ pk, PE X e (tE X.K ca W pk (evX cl pk a))) ∧ (tst a = true → PT X e (tT X.K ca W (evB cl a))) := ⟨hE, fun _ => T_any (hE true) he⟩
mutual
theorem soundE : ∀ (a : E) {X : Cx} {W : WX} {N : List Str} {sc : Scope} {top : Bool} {e : Expr}, GoodX X ca cl W gi N sc top → okE gi N sc a e = true →
    (∀ pk, PE X e (tE X.K ca W pk (evX cl pk a))) ∧ (tst a = true → PT X e (tT X.K ca W (evB cl a)))
  | .c d, X, W, N, sc, top, e, G, h => by
    unfold okE at h
    obtain ⟨v, h1, h2⟩ := okC_ok (X := X) h
    refine bothE (fun pk => L_c h2 h1) fun _ => ?_
    cases e <;> first | rfl | (cases d <;> simp [okC] at h)
  | .g nm t, X, W, N, sc, top, e, G, h => by
    unfold okE at h
    split at h
    · rename_i x p0
      split at h
      · rename_i d
        simp only [Bool.and_eq_true, decide_eq_true_eq] at h
        obtain ⟨⟨rfl, h1⟩, h2⟩ := h
        obtain ⟨g1, g2, _⟩ := gl_ok G h1
        obtain ⟨v, u, hm, r, k⟩ := G.val _ _ h2
        exact bothE (fun pk => L_g (pe_glob g1 hm r g2) rfl k) fun _ => rfl
      · simp at h
    · cases h
  | .v i, X, W, N, sc, top, e, G, h => by
    unfold okE at h
    split at h
    · exact bothE (fun pk => L_v (vis_ok G h)) fun _ => rfl
    · cases h
  | .mv i, X, W, N, sc, top, e, G, h => by
    unfold okE at h
    split at h
    · exact bothE (fun pk => L_mv (vis_ok G h)) fun _ => rfl
    · cases h
  | .tup es, X, W, N, sc, top, e, G, h => by
    unfold okE at h
    split at h
    · exact bothE (fun pk => L_tup ((soundL es G).1 h)) fun _ => rfl
    · cases h
  | .lst es, X, W, N, sc, top, e, G, h => by
    unfold okE at h
    split at h
    · exact bothE (fun pk => L_lst ((soundL es G).1 h)) fun _ => rfl
    · cases h
  | .dic k, X, W, N, sc, top, e, G, h => by
    unfold okE at h
    split at h
    · exact bothE (fun pk => L_dic) fun _ => rfl
    · cases h
  | .bin o a b, X, W, N, sc, top, e, G, h => by
    unfold okE at h
    split at h
    · simp only [Bool.and_eq_true, decide_eq_true_eq] at h
      obtain ⟨⟨rfl, h1⟩, h2⟩ := h
      exact bothE (fun pk => L_bin (first_ok G h1 ((soundE a G h1).1 false)) ((soundE b G h2).1 true)) fun _ => rfl
    · cases h
  | .neg a, X, W, N, sc, top, e, G, h => by
    unfold okE at h
    split at h
    · simp only [Bool.and_eq_true, decide_eq_true_eq] at h
      obtain ⟨rfl, h1⟩ := h
      exact bothE (fun pk => L_neg ((soundE a G h1).1 true)) fun _ => rfl
    · cases h
  | .nt a, X, W, N, sc, top, e, G, h => by
    unfold okE at h
    split at h
    · simp only [Bool.and_eq_true, decide_eq_true_eq] at h
      obtain ⟨rfl, h1⟩ := h
      exact ⟨fun pk => L_nt ((soundE a G h1).1 true), fun ht => T_nt ((soundE a G h1).2 ht)⟩
    · cases h
  | .cmp o a b, X, W, N, sc, top, e, G, h => by
    unfold okE at h
    split at h
    · simp only [Bool.and_eq_true, decide_eq_true_eq, Bool.not_eq_true'] at h
      obtain ⟨⟨⟨rfl, h1⟩, h2⟩, h3⟩ := h
      have ha := first_ok G h1 ((soundE a G h1).1 false)
      have hb := (soundE b G h2).1 true
      exact ⟨fun pk => L_cmp G.hu ha hb h3, fun _ => T_cmp G.hu ha hb h3⟩
    · cases h
  | .chn o p a b c, X, W, N, sc, top, e, G, h => by
    unfold okE at h
    split at h
    · simp only [Bool.and_eq_true, decide_eq_true_eq, Bool.not_eq_true'] at h
      obtain ⟨⟨⟨⟨⟨rfl, rfl⟩, h1⟩, h2⟩, h3⟩, h4⟩ := h
      have ha := first_ok G h1 ((soundE a G h1).1 false)
      have hb := (soundE b G h2).1 false
      have hc := (soundE c G h3).1 true
      exact ⟨fun pk => L_chn G.hu ha hb hc h4, fun _ => T_chn G.hu ha hb hc h4⟩
    · cases h
  | .isN q a, X, W, N, sc, top, e, G, h => by
    unfold okE at h
    split at h
    · simp only [Bool.and_eq_true, decide_eq_true_eq] at h
      obtain ⟨rfl, h1⟩ := h
      exact ⟨fun pk => L_isN ((soundE a G h1).1 true), fun _ => T_isN ((soundE a G h1).1 true)⟩
    · cases h
  | .and_ a b, X, W, N, sc, top, e, G, h => by
    unfold okE at h
    split at h
    · rename_i x y rest p0
      simp only [Bool.and_eq_true] at h
      obtain ⟨h1, h2⟩ := h
      cases rest with
      | nil =>
        have s2 := soundE b G h2
        refine ⟨fun pk => L_and ((soundE a G h1).1 pk) (pe_one (s2.1 pk)), fun ht => ?_⟩
        have ht' : tst a = true ∧ tst b = true := by simpa [tst] using ht
        exact PT.imp (pw_and ((soundE a G h1).2 ht'.1) (pw_and1 (s2.2 ht'.2))).pt fun σ H Q q => and_test q
      | cons z rest =>
        have s2 := soundE b G h2
        refine ⟨fun pk => L_and ((soundE a G h1).1 pk) (s2.1 pk), fun ht => ?_⟩
        have ht' : tst a = true ∧ tst b = true := by simpa [tst] using ht
        refine PT.imp (pw_and ((soundE a G h1).2 ht'.1) (tB' := tT X.K ca W (evB cl b)) ⟨fun wh pins s σ H Q I q => ?_⟩).pt fun σ H Q q => and_test q
        exact (s2.2 ht'.2).run pins s σ H Q I q
    · cases h
  | .or_ a b, X, W, N, sc, top, e, G, h => by
    unfold okE at h
    split at h
    · rename_i x y rest p0
      simp only [Bool.and_eq_true] at h
      obtain ⟨h1, h2⟩ := h
      cases rest with
      | nil =>
        have s2 := soundE b G h2
        refine ⟨fun pk => L_or ((soundE a G h1).1 pk) (pe_one (s2.1 pk)), fun ht => ?_⟩
        have ht' : tst a = true ∧ tst b = true := by simpa [tst] using ht
        exact PT.imp (pw_or ((soundE a G h1).2 ht'.1) (pw_or1 (s2.2 ht'.2))).pt fun σ H Q q => or_test q
      | cons z rest =>
        have s2 := soundE b G h2
        refine ⟨fun pk => L_or ((soundE a G h1).1 pk) (s2.1 pk), fun ht => ?_⟩
        have ht' : tst a = true ∧ tst b = true := by simpa [tst] using ht
        refine PT.imp (pw_or ((soundE a G h1).2 ht'.1) (tB' := tT X.K ca W (evB cl b)) ⟨fun wh pins s σ H Q I q => ?_⟩).pt fun σ H Q q => or_test q
        exact (s2.2 ht'.2).run pins s σ H Q I q
    · cases h
  | .ife t a b, X, W, N, sc, top, e, G, h => by
    unfold okE at h
    split at h
    · simp only [Bool.and_eq_true] at h
      obtain ⟨⟨⟨h1, h2⟩, h3⟩, h4⟩ := h
      exact ⟨fun pk => L_ife ((soundE t G h1).2 h2) ((soundE a G h3).1 pk) ((soundE b G h4).1 pk), fun ht => by simp [tst] at ht⟩
    · cases h
  | .idx a b, X, W, N, sc, top, e, G, h => by
    unfold okE at h
    split at h
    · simp only [Bool.and_eq_true, Bool.or_eq_true, Bool.not_eq_true'] at h
      obtain ⟨⟨⟨h1, h2⟩, h3⟩, h4⟩ := h
      have hav : ∀ i, isV a = some i → PE X _ (tVar i) := fun i hi => by
        have := first_ok G h1 ((soundE a G h1).1 false)
        unfold firstTE at this
        rw [hi] at this
        exact this
      refine bothE (fun pk => ?_) fun _ => rfl
      by_cases hq : quiet b = true
      · obtain ⟨tq, q1, q2⟩ := quiet_ok G h2 (h4.resolve_left (by rw [hq]; simp))
        exact L_idx G.hu (plain_ok h3) hav ((soundE a G h1).1 true) ((soundE b G h2).1 true) fun _ => ⟨q1, q2⟩
      · exact L_idx (tq := fun _ _ _ => False) G.hu (plain_ok h3) hav ((soundE a G h1).1 true) ((soundE b G h2).1 true) fun z => absurd z hq
    · cases h
  | .slc a lo hi, X, W, N, sc, top, e, G, h => by
    unfold okE at h
    split at h
    · simp only [Bool.and_eq_true] at h
      obtain ⟨⟨h1, h2⟩, h3⟩ := h
      exact bothE (fun pk => L_slc (first_ok G h1 ((soundE a G h1).1 false)) (soundO lo G h2) (soundO hi G h3)) fun _ => rfl
    · cases h
  | .rev a, X, W, N, sc, top, e, G, h => by
    unfold okE at h
    split at h
    · exact bothE (fun pk => L_rev ((soundE a G h).1 true)) fun _ => rfl
    · cases h
  | .isi a ty, X, W, N, sc, top, e, G, h => by
    unfold okE at h
    split at h
    · simp only [Bool.and_eq_true, decide_eq_true_eq] at h
      obtain ⟨⟨⟨⟨⟨rfl, h1⟩, rfl⟩, h2⟩, h3⟩, h4⟩ := h
      obtain ⟨g1, g2, g3⟩ := gl_ok G h1
      obtain ⟨g4, g5, g6⟩ := gl_ok G h2
      exact bothE (fun pk => L_isi g1 (bt_ok G in_isinstance) PyProof.Rows.boot_isinstance g3 g2 ((soundE a G h3).1 true)
        (pe_bltn g4 (bt_ok G ty_in) ty_boot rfl g6 g5) (starEach_ok h4) rfl) fun _ => rfl
    · cases h
  | .call f es, X, W, N, sc, top, e, G, h => by
    unfold okE at h
    split at h
    · rename_i x p0 xs p1
      simp only [Bool.and_eq_true, decide_eq_true_eq] at h
      obtain ⟨⟨h1, h2⟩, h3⟩ := h
      obtain ⟨g1, g2, g3⟩ := gl_ok G h1
      have F := G.fn _ _ _ h2
      refine bothE (fun pk => ?_) fun _ => rfl
      cases xs with
      | nil =>
        cases es with
        | nil => exact L_call0 G.tk F g1 g2
        | one a r => unfold okA at h3; cases h3
        | star a r => unfold okA at h3; cases h3
      | cons y ys =>
        have hs : (y :: ys).all noStar = true := okA_star h3
        have hs' : noStar y = true ∧ ys.all noStar = true := by simpa using hs
        exact L_call G.tk F g1 g2 (fun τ as τ' e => evA_len e) ((soundL es G).2.1 h3) (starEach_ok hs'.1) (backTo_ok hs'.2)
    · cases h
  | .bi b es, X, W, N, sc, top, e, G, h => by
    unfold okE at h
    split at h
    · rename_i x p0 xs p1
      simp only [Bool.and_eq_true, decide_eq_true_eq, Bool.not_eq_true'] at h
      obtain ⟨⟨⟨rfl, h1⟩, h2⟩, h3⟩ := h
      obtain ⟨g1, g2, g3⟩ := gl_ok G h1
      have hb : bnm b ≠ .none := fun z => by
        cases b <;> first | (cases z; done) | (simp [bis] at g2)
      refine bothE (fun pk => ?_) fun _ => rfl
      cases xs with
      | nil => cases h3
      | cons y ys =>
        have hs : (y :: ys).all noStar = true := okA_star h2
        have hs' : noStar y = true ∧ ys.all noStar = true := by simpa using hs
        have cr := biC (ca := ca) G.calm b hb
        have bo := bis_boot hb
        have ar := (soundL es G).2.2 h2
        rcases bnm_kind hb with ⟨id, ek⟩ | ⟨Ty, ek⟩
        · rw [ek] at cr bo
          exact PE.imp (pe_callB cr g1 (bt_ok G (bis_in hb)) bo ar g3 g2 (starEach_ok hs'.1) (backTo_ok hs'.2)) fun σ H Q q => bi_imp q
        · rw [ek] at cr bo
          exact PE.imp (pe_callTy cr g1 (bt_ok G (bis_in hb)) bo ar g3 g2 (starEach_ok hs'.1) (backTo_ok hs'.2)) fun σ H Q q => bi_imp q
    · cases h
  | .lrg it, X, W, N, sc, top, e, G, h => by
    unfold okE at h
    split at h
    · rename_i a
      simp only [Bool.and_eq_true, decide_eq_true_eq] at h
      obtain ⟨⟨⟨⟨⟨rfl, h1⟩, rfl⟩, h2⟩, h3⟩, h4⟩ := h
      obtain ⟨g1, g2, g3⟩ := gl_ok G h1
      obtain ⟨g4, g5, g6⟩ := gl_ok G h2
      exact bothE (fun pk => L_lrg1 G.calm g1 (bt_ok G in_list) g4 (bt_ok G in_range) ((soundE a G h3).1 true) (starEach_ok h4)) fun _ => rfl
    · cases h
  | .me _ _ _, X, W, N, sc, top, e, G, h => by unfold okE at h; cases h
  | .mu m i es, X, W, N, sc, top, e, G, h => by
    unfold okE at h
    split at h
    · rename_i x p0 nm ap xs cp
      simp only [Bool.and_eq_true, decide_eq_true_eq] at h
      obtain ⟨⟨⟨⟨⟨h1, h2⟩, h3⟩, h4⟩, h5⟩, h6⟩ := h
      obtain ⟨m1, m2, m3, m4⟩ := mus_ok h2
      refine bothE (fun pk => ?_) fun _ => rfl
      have ar := (soundL es G).1 h4
      cases xs with
      | nil =>
        refine PE.imp (pe_bm0 PySem.F.plainAttrs_list m3 m4 (muM (ca := ca) m m1) (vis_ok G h1) rfl h3) fun σ H Q q => ?_
        have en : es = .nil := by
          cases es with
          | nil => rfl
          | one a r => unfold okL at h4; cases h4
          | star a r => unfold okL at h4; cases h4
        subst en
        obtain ⟨v, hv, ty, τ, Θ, o, z⟩ := mu_imp m2 q
        simp only [evL, Out] at z
        exact ⟨v, hv, ty, z [] H o.fit rfl o.sp⟩
      | cons y ys =>
        have hs' : noStar y = true ∧ ys.all noStar = true := by simpa using h5
        exact PE.imp (pe_bm PySem.F.plainAttrs_list m3 m4 (muM (ca := ca) m m1) (vis_ok G h1) ar rfl (few_ok h5 h6) h3 (starEach_ok hs'.1) (backTo_ok hs'.2)) fun σ H Q q => mu_imp m2 q
    · cases h
  | .fld _ _, X, W, N, sc, top, e, G, h => by unfold okE at h; cases h
  | .new _ _ _, X, W, N, sc, top, e, G, h => by unfold okE at h; cases h
  | .lc a g it ifs own, X, W, N, sc, top, e, G, h => by
    unfold okE at h
    split at h
    · simp only [Bool.and_eq_true] at h
      obtain ⟨⟨⟨⟨⟨h1, h2⟩, h3⟩, h4⟩, h5⟩, h6⟩ := h
      obtain ⟨o1, o2, o3, o4⟩ := own_ok h1
      have G' : GoodX X ca cl WF gi N sc top := ⟨G.hN, G.nd, G.hsc, G.calm, G.fnl, G.hu, G.gu, G.ro, G.bt, takesF, G.fn, G.val, G.exn, G.nms, G.vof, G.sub⟩
      refine bothE (fun pk => ?_) fun _ => rfl
      have := L_lc (pk := pk) (W := W) (pos := ‹Pos›) (own := ownN N own) G.calm (by rw [G.hN]; exact G.nd) (by rw [G.hN, G.hsc]; exact o2) (by rw [o1]; exact o3) (by rw [o1]; exact o4) (soundI it G' h2)
        (fun s H C cel fp => okG_ok (G.blk (s := s) (H := H) (C := C) (cel := cel) (fp := fp)) h3) (fun s H C cel fp => soundIf ifs (G.blk (s := s) (H := H) (C := C) (cel := cel) (fp := fp)) h4)
        (fun s H C cel fp => (soundE a (G.blk (s := s) (H := H) (C := C) (cel := cel) (fp := fp)) h5).1 false) (folded_ok h6)
      rw [o1] at this
      exact this
    · cases h
  | .dc k ke ve g it ifs own, X, W, N, sc, top, e, G, h => by
    unfold okE at h
    split at h
    · simp only [Bool.and_eq_true, Bool.not_eq_true'] at h
      obtain ⟨⟨⟨⟨⟨⟨⟨h0, h1⟩, h2⟩, h3⟩, h4⟩, h5⟩, h7⟩, h6⟩ := h
      subst h0
      obtain ⟨o1, o2, o3, o4⟩ := own_ok h1
      have G' : GoodX X ca cl WF gi N sc top := ⟨G.hN, G.nd, G.hsc, G.calm, G.fnl, G.hu, G.gu, G.ro, G.bt, takesF, G.fn, G.val, G.exn, G.nms, G.vof, G.sub⟩
      refine bothE (fun pk => ?_) fun _ => rfl
      have := L_dc (pk := pk) (W := W) (pos := ‹Pos›) (own := ownN N own) G.calm (by rw [G.hN]; exact G.nd) (by rw [G.hN, G.hsc]; exact o2) (by rw [o1]; exact o3) (by rw [o1]; exact o4) (soundI it G' h2)
        (fun s H C cel fp => okG_ok (G.blk (s := s) (H := H) (C := C) (cel := cel) (fp := fp)) h3) (fun s H C cel fp => soundIf ifs (G.blk (s := s) (H := H) (C := C) (cel := cel) (fp := fp)) h4)
        (fun s H C cel fp => (soundE ke (G.blk (s := s) (H := H) (C := C) (cel := cel) (fp := fp)) h5).1 false)
        (fun s H C cel fp => (soundE ve (G.blk (s := s) (H := H) (C := C) (cel := cel) (fp := fp)) h7).1 false) (folded_ok h6)
      rw [o1] at this
      exact this
    · cases h
  | .fz a, X, W, N, sc, top, e, G, h => by
    unfold okE at h
    exact ⟨fun pk => L_fz ((soundE a G h).1 false), fun ht => by simp [tst] at ht⟩
  | .mkx c a, X, W, N, sc, top, e, G, h => by
    unfold okE at h
    split at h
    · simp only [Bool.and_eq_true, decide_eq_true_eq] at h
      obtain ⟨⟨⟨h1, h2⟩, h3⟩, h4⟩ := h
      obtain ⟨g1, g2, g3⟩ := gl_ok G h1
      obtain ⟨q1, q2⟩ := G.exn _ _ h2
      exact bothE (fun pk => L_mkx q1 (bt_ok G in_super) G.ro g1 q2 ((soundE a G h3).1 false) (starEach_ok h4) g2) fun _ => rfl
    · cases h
  | .vof m a, X, W, N, sc, top, e, G, h => by
    unfold okE at h
    split at h
    · rename_i x f p0
      simp only [Bool.and_eq_true, decide_eq_true_eq] at h
      obtain ⟨⟨⟨rfl, h1⟩, h2⟩, h3⟩ := h
      have hb : attributeBase x "value" X.env (eval x X.env) = eval x X.env := by
        cases x <;> first | rfl | (simp [atB] at h2)
      exact bothE (fun pk => L_vof (fun n hn => G.vof n (by omega)) hb ((soundE a G h3).1 true)) fun _ => rfl
    · cases h
  | .isx a nm cs, X, W, N, sc, top, e, G, h => by
    unfold okE at h
    split at h
    · simp only [Bool.and_eq_true, decide_eq_true_eq] at h
      obtain ⟨⟨⟨⟨⟨⟨rfl, h1⟩, rfl⟩, h2⟩, h3⟩, h4⟩, h5⟩ := h
      obtain ⟨g1, g2, g3⟩ := gl_ok G h1
      obtain ⟨g4, g5, g6⟩ := gl_ok G h2
      rcases G.sub _ _ h3 with ⟨C, q1, q2⟩ | ⟨rfl, q2⟩
      · exact bothE (fun pk => L_isx (vc := .ref C) g1 (bt_ok G in_isinstance) PyProof.Rows.boot_isinstance g3 g2 q2 (fun u r => r) (pe_glob g4 q1 (v := .ref C) rfl g5) ((soundE a G h4).1 true) (starEach_ok h5) rfl) fun _ => rfl
      · exact bothE (fun pk => L_isx (vc := .ty "ValueError") g1 (bt_ok G in_isinstance) PyProof.Rows.boot_isinstance g3 g2 q2 (fun u r => r) (pe_bltn g4 (bt_ok G in_ve) (v := .ty "ValueError") (by decide +kernel) rfl g6 g5) ((soundE a G h4).1 true) (starEach_ok h5) rfl) fun _ => rfl
    · cases h
  | .dk kvs, X, W, N, sc, top, e, G, h => by
    unfold okE at h
    split at h
    · simp only [Bool.and_eq_true, decide_eq_true_eq, Bool.not_eq_true'] at h
      obtain ⟨⟨h1, h2⟩, h3⟩ := h
      obtain ⟨kk, xs, e1, e2, e3, e4, e5, e6, e7, e8⟩ := okK_ok (X := X) (ca := ca) (pos := ‹Pos›) h1
      exact bothE (fun pk => L_dk e8 e4 e5 (fun z => by rw [z] at h2; simp at h2) h3 e6 e1 e2 e3 e7) fun _ => rfl
    · cases h
  | .rp nms a, X, W, N, sc, top, e, G, h => by
    unfold okE at h
    split at h
    · simp only [Bool.and_eq_true, decide_eq_true_eq] at h
      obtain ⟨⟨⟨⟨rfl, h1⟩, rfl⟩, h2⟩, h3⟩ := h
      obtain ⟨g1, g2, g3⟩ := gl_ok G h1
      exact bothE (fun pk => L_rp G.hu G.gu G.nms g1 (bt_ok G in_repr) (by decide +kernel) g3 g2 ((soundE a G h2).1 true) (starEach_ok h3) rfl) fun _ => rfl
    · cases h
theorem soundL : ∀ (r : Es) {X : Cx} {W : WX} {N : List Str} {sc : Scope} {top : Bool} {xs : List Expr}, GoodX X ca cl W gi N sc top →
    (okL gi N sc r xs = true → PA X xs (tL X.K ca W (evL cl r))) ∧ (okA gi N sc r xs = true → PA X xs (tA X.K ca W (evA cl r))) ∧ (okA gi N sc r xs = true → PA X xs (tQ X.K ca W (evQ cl r)))
  | .nil, X, W, N, sc, top, xs, G => by
    have e : ∀ {b : Bool}, b = xs.isEmpty → b = true → xs = [] := fun h z => by rw [h] at z; simpa using z
    refine ⟨fun h => ?_, fun h => ?_, fun h => ?_⟩
    · unfold okL at h; obtain rfl := e rfl h; exact A_nilL
    · unfold okA at h; obtain rfl := e rfl h; exact A_nilA
    · unfold okA at h; obtain rfl := e rfl h; exact A_nilQ
  | .one a r, X, W, N, sc, top, xs, G => by
    refine ⟨fun h => ?_, fun h => ?_, fun h => ?_⟩
    · unfold okL at h
      split at h
      · simp only [Bool.and_eq_true] at h
        exact A_oneL ((soundE a G h.1.1).1 false) ((soundL r G).1 h.2) (starEach_ok h.1.2)
      · cases h
    · unfold okA at h
      split at h
      · simp only [Bool.and_eq_true] at h
        exact A_oneA (first_ok G h.1.1 ((soundE a G h.1.1).1 false)) ((soundL r G).2.1 h.2) (starEach_ok h.1.2)
      · cases h
    · unfold okA at h
      split at h
      · simp only [Bool.and_eq_true] at h
        cases r with
        | nil =>
          have h2 := h.2
          unfold okA at h2
          rename_i x xs
          have : xs = [] := by simpa using h2
          subst this
          exact A_lastQ ((soundE a G h.1.1).1 true) (starEach_ok h.1.2)
        | one b r => exact A_oneQ rfl (first_ok G h.1.1 ((soundE a G h.1.1).1 false)) ((soundL (.one b r) G).2.2 h.2) (starEach_ok h.1.2)
        | star b r =>
          have h2 := h.2
          unfold okA at h2
          cases h2
      · cases h
  | .star a r, X, W, N, sc, top, xs, G => by
    refine ⟨fun h => ?_, fun h => ?_, fun h => ?_⟩
    · unfold okL at h
      split at h
      · simp only [Bool.and_eq_true] at h
        exact A_starL ((soundE a G h.1).1 false) ((soundL r G).1 h.2)
      · cases h
    · unfold okA at h; cases h
    · unfold okA at h; cases h
theorem soundO : ∀ (o : Eo) {X : Cx} {W : WX} {N : List Str} {sc : Scope} {top : Bool} {e : Option Expr}, GoodX X ca cl W gi N sc top → okO gi N sc o e = true → PO X e (tO X.K ca W (evO cl o))
  | .none, X, W, N, sc, top, e, G, h => by
    unfold okO at h
    have : e = none := by simpa using h
    subst this
    exact O_none
  | .some a, X, W, N, sc, top, e, G, h => by
    unfold okO at h
    split at h
    · exact O_some ((soundE a G h).1 true)
    · cases h
theorem soundIf : ∀ (o : Eo) {X : Cx} {W : WX} {N : List Str} {sc : Scope} {top : Bool} {e : List Expr}, GoodX X ca cl W gi N sc top → okF gi N sc o e = true → PTs X e (tT X.K ca W (evT cl o))
  | .none, X, W, N, sc, top, e, G, h => by
    unfold okF at h
    have : e = [] := by simpa using h
    subst this
    exact T_none
  | .some a, X, W, N, sc, top, e, G, h => by
    unfold okF at h
    split at h
    · simp only [Bool.and_eq_true] at h
      exact T_some ((soundE a G h.1).2 h.2)
    · cases h
theorem soundI : ∀ (it : EV.It) {X : Cx} {W : WX} {N : List Str} {sc : Scope} {top : Bool} {tg e : Expr}, GoodX X ca cl W gi N sc top → okI gi N sc it tg e = true → PI X tg e (tI X.K ca W (evI cl it))
  | .e a, X, W, N, sc, top, tg, e, G, h => by
    unfold okI at h
    exact I_e ((soundE a G h).1 false)
  | .rg1 a, X, W, N, sc, top, tg, e, G, h => by
    unfold okI at h
    split at h
    · simp only [Bool.and_eq_true, decide_eq_true_eq] at h
      obtain ⟨⟨⟨rfl, h1⟩, h2⟩, h3⟩ := h
      obtain ⟨g1, g2, g3⟩ := gl_ok G h1
      exact I_rg1 g1 (bt_ok G in_range) ((soundE a G h2).1 true) (starEach_ok h3)
    · cases h
  | .rg2 a b, X, W, N, sc, top, tg, e, G, h => by
    unfold okI at h
    split at h
    · simp only [Bool.and_eq_true, decide_eq_true_eq] at h
      obtain ⟨⟨⟨⟨⟨rfl, h1⟩, h2⟩, h3⟩, h4⟩, h5⟩ := h
      obtain ⟨g1, g2, g3⟩ := gl_ok G h1
      exact I_rg2 g1 (bt_ok G in_range) (first_ok G h2 ((soundE a G h2).1 false)) ((soundE b G h3).1 true) (by rw [starEach_ok h4, starEach_ok h5]; rfl) (by rw [starEach_ok h5]; rfl)
    · cases h
  | .rg3 _ _ _, X, W, N, sc, top, tg, e, G, h => by unfold okI at h; cases h
  | .enum a, X, W, N, sc, top, tg, e, G, h => by
    unfold okI at h
    split at h
    · simp only [Bool.and_eq_true, decide_eq_true_eq] at h
      obtain ⟨⟨⟨rfl, h1⟩, h2⟩, h3⟩ := h
      obtain ⟨g1, g2, g3⟩ := gl_ok G h1
      exact I_enum g1 (bt_ok G in_enumerate) ((soundE a G h2).1 false) (starEach_ok h3)
    · cases h
  | .zip a b, X, W, N, sc, top, tg, e, G, h => by
    unfold okI at h
    split at h
    · simp only [Bool.and_eq_true, decide_eq_true_eq] at h
      obtain ⟨⟨⟨⟨⟨rfl, h1⟩, h2⟩, h3⟩, h4⟩, h5⟩ := h
      obtain ⟨g1, g2, g3⟩ := gl_ok G h1
      exact I_zip g1 (bt_ok G in_zip) ((soundE a G h2).1 false) ((soundE b G h3).1 false) (starEach_ok h4) (starEach_ok h5) (by rw [starEach_ok h5]; rfl)
    · cases h
  | .items _, X, W, N, sc, top, tg, e, G, h => by unfold okI at h; cases h
  | .vals _, X, W, N, sc, top, tg, e, G, h => by unfold okI at h; cases h
end
end
end EV
set_option Elab.async false
set_option linter.all false
set_option maxRecDepth 100000
set_option maxHeartbeats 4000000
namespace L2
open PySem PySem.Spec PyProof.Rows
section
variable {X : Cx}
/-- name = {..} on one line, the name a local -/
theorem ev_setDc {i : Nat} {y : Str} {py : Pos} {kx vx tg iter : Expr} {ifs : List Expr} {scope : Scope} {own : List (Str × Nat)} {pos spos : Pos} {wi : TI} {g : TG} {tt : TT} {tk tv : TE} (hc : X.calm = true) (hN : X.N.Nodup) (hy : X.N[i]? = some y) (hyl : X.env.scope.names.lookup y = some .local)
    (hsw : swapsWith (.DictComp kx vx [⟨tg, iter, ifs, 0⟩] scope pos) (some (.Name y py)) spos.line X.env = pure true) (hi : PI X tg iter wi) (ok : BlkOk X.N X.env.scope scope own)
    (hg : ∀ (s : Shared) (H : Hp) (C : Addr) (cl : List (Str × Addr)) (fp : List Addr), PG (X.blk s H scope (compEnvC scope cl C X.env) fp) tg g) (ht : ∀ (s : Shared) (H : Hp) (C : Addr) (cl : List (Str × Addr)) (fp : List Addr), PTs (X.blk s H scope (compEnvC scope cl C X.env) fp) ifs tt)
    (hk : ∀ (s : Shared) (H : Hp) (C : Addr) (cl : List (Str × Addr)) (fp : List Addr), PE (X.blk s H scope (compEnvC scope cl C X.env) fp) kx tk)
    (he : ∀ (s : Shared) (H : Hp) (C : Addr) (cl : List (Str × Addr)) (fp : List Addr), PE (X.blk s H scope (compEnvC scope cl C X.env) fp) vx tv) (hs : ∀ x, foldedSetIterable iter X.env x = pure x) :
    PS X (.Assign [.Name y py] (.DictComp kx vx [⟨tg, iter, ifs, 0⟩] scope pos) spos) (tAsg (tDc wi g tt tk tv (own.map (·.2))) (gName i)) := by
  refine ⟨fun pins s σ H D I h => ?_⟩
  rw [exec_Assign_Name_used _ _ _ _ hsw]
  refine wpAny_bind (wpAny_standAt (wpAny_bind ?_))
  show wpAny _ X.A (do let _ ← comprehension (.DictComp kx vx [⟨tg, iter, ifs, 0⟩] scope pos) scope X.env (firstIterPos [⟨tg, iter, ifs, 0⟩] pos) newDict false (eval iter X.env) (some (assign (.Name y py) X.env))) _ _ s
  have h : tDc wi g tt tk tv (own.map (·.2)) σ H (fun x H1 => gName i x σ H1 D.nx) := h
  refine wpAny_bind (thn (dc_core (Qf := fun _ s' => SP X pins D .next s') hc hN I hi ok hg ht hk he hs h fun L C s' m H' I' q hn f => ?_) fun _ s' hq => wpAny_pure (wpAny_pure hq))
  show wpAny _ _ (assign (.Name y py) X.env (.ref L)) _ _ _
  refine wpAny_assign_Name (store_ok2 (v := V.ref L) I' hN hy (.inl hyl) rfl (fun s2 I2 ⟨a, sb, ha⟩ => ?_) (.inr hyl))
  obtain ⟨f0, f1, f2, f3, f4, f5⟩ := f
  have haC : C ≠ a := by
    rcases ha with z | z
    · rw [z]; exact f1
    · exact fun e => f4 y a z e.symm
  refine ⟨m, hn.sameBut sb haC, fun h3 sb3 => ?_⟩
  exact ⟨_, H', I2.turned (t' := s2.toks) (fun b o hb e => (sb3.2 b hb).trans e) f0 f1 f3 f4 f5, q⟩
end
end L2
namespace EV
open PySem PySem.Spec L2
open PyProof.Rows hiding St
/-! ### which way a value is stored -/
def isComp : Expr → Bool
  | .ListComp _ _ _ _ => true
  | .SetComp _ _ _ _ => true
  | .DictComp _ _ _ _ _ => true
  | _ => false
def compUse (sc : Scope) (t : Str) (tp : Pos) (s : Scope) (p : Pos) : Bool :=
  decide (sc.kind = .function) && decide (sc.names.lookup t = some .local) && (tp.line == p.line) && !(s.names.any fun (n, k) => n == t && (k == .local || k == .cell))
def useB (sc : Scope) (t : Str) (tp : Pos) : Expr → Bool
  | .ListComp _ _ s p => compUse sc t tp s p
  | .SetComp _ _ s p => compUse sc t tp s p
  | .DictComp _ _ _ s p => compUse sc t tp s p
  | _ => false
def swNames (sc : Scope) (ts : List Expr) : List Str :=
  let line := (ts.head?.map (·.pos.line)).getD 0
  ts.filterMap fun
    | .Name id pos => if sc.names.lookup id == some .local && pos.line == line then some id else none
    | _ => none
def swN (sc : Scope) (ts : List Expr) : Bool := decide ((swNames sc ts).length ≠ ts.length)
def swP (sc : Scope) (ts vs : List Expr) : Bool :=
  (ts.length == 2 || ts.length == 3) && vs.length == ts.length && decide (sc.kind = .function) && vs.all noStar && ((swNames sc ts).length == ts.length) && ((swNames sc ts).eraseDups.length == (swNames sc ts).length) && !(vs.all (foldedForSure 8)) && !(vs.all (constantsAlone 8))
section
variable {env : PySem.Env} {sc : Scope} {pos p p1 p2 : Pos}
theorem kind_block (h : env.scope = sc) (hk : sc.kind = .function) : env.blockKind = .function := by
  unfold Env.blockKind
  rw [h, hk]
  rfl
theorem sw_no {x : Expr} {o : Option Expr} {l : Nat} (h : isComp x = false) : swapsWith x o l env = pure false := by
  cases x <;> first | rfl | (simp [isComp] at h)
theorem sw_val {x : Expr} {t : Str} {tp : Pos} {l : Nat} (h : env.scope = sc) (hk : sc.kind = .function) : swapsWith x (some (.Name t tp)) l env = pure (useB sc t tp x) := by
  have hb := kind_block h hk
  have key : ∀ (s : Scope) (pp : Pos), (env.blockKind == ScopeKind.function && env.kindOf t == some NameKind.local && tp.line == pp.line && !(s.names.any fun (n, k) => n == t && (k == .local || k == .cell))) = compUse sc t tp s pp := fun s pp => by
    unfold compUse Env.kindOf
    rw [hb, hk, h]
    have : (sc.names.lookup t == some NameKind.local) = decide (sc.names.lookup t = some NameKind.local) := by
      by_cases z : sc.names.lookup t = some NameKind.local
      · rw [z]; rfl
      · rw [decide_eq_false z]
        exact beq_false_of_ne z
    rw [this]
    rfl
  cases x with
  | ListComp a g s pp => exact congrArg pure (key s pp)
  | SetComp a g s pp => exact congrArg pure (key s pp)
  | DictComp a b g s pp => exact congrArg pure (key s pp)
  | _ => rfl
theorem sw_sub {x o i : Expr} {l : Nat} : swapsWith x (some (.Subscript o i p)) l env = pure false := by
  cases x <;> rfl
theorem sw_tup {x : Expr} {ts : List Expr} {k l : Nat} : swapsWith x (some (.Tuple ts k p)) l env = pure false := by
  cases x <;> rfl
theorem swap_name {x : Expr} {t : Str} : swappedStores [.Name t p] x env = pure none := by
  unfold swappedStores
  rfl
theorem swap_sub {x o i : Expr} : swappedStores [.Subscript o i p] x env = pure none := by
  unfold swappedStores
  rfl
theorem swap_ntup {x : Expr} {ts : List Expr} {k : Nat} (h : ∀ vs k2 q, x ≠ .Tuple vs k2 q) : swappedStores [.Tuple ts k p] x env = pure none := by
  cases x <;> first | rfl | exact (h _ _ _ rfl).elim
theorem swNames_eq (h : env.scope = sc) (ts : List Expr) : (ts.filterMap fun
    | .Name id pos => if env.kindOf id == some .local && pos.line == (ts.head?.map (·.pos.line)).getD 0 then some id else none
    | _ => none) = swNames sc ts := by
  unfold swNames Env.kindOf
  rw [h]
theorem swap_no {ts vs : List Expr} {k k2 : Nat} (h : env.scope = sc) (hs : swN sc ts = true) : swappedStores [.Tuple ts k p] (.Tuple vs k2 p2) env = pure none := by
  have e := swNames_eq h ts
  unfold swN at hs
  have hs' := of_decide_eq_true hs
  show (if (!(ts.length == 2 || ts.length == 3) || vs.length != ts.length || env.blockKind != .function) = true then pure none else _) = _
  split
  · rfl
  · show (if _ then pure none else _) = _
    split
    · rfl
    · show (if _ then pure none else _) = _
      rw [if_pos]
      simp only [Bool.or_eq_true, bne_iff_ne, ne_eq]
      left
      exact fun z => hs' (by rw [← e]; exact z)
theorem swap_yes {ts vs : List Expr} {k k2 : Nat} (h : env.scope = sc) (hs : swP sc ts vs = true) : swappedStores [.Tuple ts k p] (.Tuple vs k2 p2) env = pure (some (swNames sc ts)) := by
  have e := swNames_eq h ts
  unfold swP at hs
  simp only [Bool.and_eq_true, decide_eq_true_eq, Bool.not_eq_true'] at hs
  obtain ⟨⟨⟨⟨⟨⟨⟨h1, h2⟩, h3⟩, h4⟩, h5⟩, h6⟩, h7⟩, h8⟩ := hs
  have hb := kind_block h h3
  show (if (!(ts.length == 2 || ts.length == 3) || vs.length != ts.length || env.blockKind != .function) = true then pure none else _) = _
  rw [if_neg (by rw [hb, h1]; simp only [bne, h2]; decide)]
  have hst : (vs.any fun | .Starred .. => true | _ => false) = false := by
    clear h2 h7 h8
    induction vs with
    | nil => rfl
    | cons v vs ih =>
      have h4' : noStar v = true ∧ vs.all noStar = true := by simpa using h4
      rw [List.any_cons, ih h4'.2]
      cases v <;> first | rfl | (simp [noStar] at h4')
  show (if (vs.any fun | .Starred .. => true | _ => false) = true then pure none else _) = _
  rw [if_neg (by rw [hst]; decide)]
  show (if _ then pure none else _) = _
  generalize hfm : List.filterMap _ ts = fm
  obtain rfl : fm = swNames sc ts := hfm.symm.trans e
  rw [if_neg (by
    simp only [Bool.or_eq_true, not_or]
    refine ⟨?_, ?_⟩
    · simp only [bne, h5]
      decide
    · simp only [bne, h6]
      decide)]
  show (if vs.all (foldedForSure 8) = true then pure none else _) = _
  rw [if_neg (by rw [h7]; decide)]
  show (if vs.all (constantsAlone 8) = true then _ else _) = _
  rw [if_neg (by rw [h8]; decide)]
end
end EV
set_option Elab.async false
set_option linter.all false
set_option maxRecDepth 100000
set_option maxHeartbeats 4000000
namespace EV
open PySem PySem.Spec L2
open PyProof.Rows hiding St
/-! ### the check of statements -/
def disj (g : Tg) (fx : List Nat) : Bool := (tgs g).all fun i => !fx.contains i
def locB (N : List Str) (sc : Scope) (i : Nat) (x : Str) : Bool := decide (N[i]? = some x) && decide (sc.names.lookup x = some .local)
mutual
def okS (gi : Gi) (N : List Str) (sc : Scope) (fx : List Nat) : S → Stmt → Bool
  | .asg g a, st => match st with
    | .Assign [tg] x p => okE gi N sc a x && okG N sc true g tg && disj g fx && (match tg with
      | .Name t tp => !useB sc t tp x || (match g, a with
        | .n i, .lc _ _ _ _ _ => locB N sc i t
        | .n i, .dc _ _ _ _ _ _ _ => locB N sc i t
        | _, _ => false)
      | .Tuple ts _ _ => (match x with
        | .Tuple vs _ _ => swN sc ts
        | _ => true)
      | _ => false)
    | _ => false
  | .sub i k a, st => match st with
    | .Assign [.Subscript (.Name x _) y _] v _ => visB N sc i x && okE gi N sc k y && okE gi N sc a v && plainB y
    | _ => false
  | .par i j a b, st => match st with
    | .Assign [.Tuple [.Name x px, .Name y py] _ _] (.Tuple [v, w] _ _) _ => locB N sc i x && locB N sc j y && decide (i ≠ j) && okL gi N sc (.one a (.one b .nil)) [v, w] && !fx.contains i && !fx.contains j &&
        swP sc [.Name x px, .Name y py] [v, w] && decide (swNames sc [.Name x px, .Name y py] = [x, y])
    | _ => false
  | .par3 i j l a b c, st => match st with
    | .Assign [.Tuple [.Name x px, .Name y py, .Name z pz] _ _] (.Tuple [v, w, u] _ _) _ => locB N sc i x && locB N sc j y && locB N sc l z && decide (i ≠ j) && decide (i ≠ l) && decide (j ≠ l) &&
        okL gi N sc (.one a (.one b (.one c .nil))) [v, w, u] && !fx.contains i && !fx.contains j && !fx.contains l && swP sc [.Name x px, .Name y py, .Name z pz] [v, w, u] && decide (swNames sc [.Name x px, .Name y py, .Name z pz] = [x, y, z])
    | _ => false
  | .aug i a, st => match st with
    | .AugAssign (.Name x _) op v _ => decide (op = .Add) && locB N sc i x && okE gi N sc a v && !fx.contains i
    | _ => false
  | .augS i k a, st => match st with
    | .AugAssign (.Subscript (.Name x _) y _) op v _ => decide (op = .Add) && visB N sc i x && okE gi N sc k y && okE gi N sc a v && plainB y
    | _ => false
  | .ex a, st => match st with
    | .Expr v _ => okE gi N sc a v && !isComp v
    | _ => false
  | .ife c a b, st => match st with
    | .If t x y _ => okE gi N sc c t && tst c && okSs gi N sc fx a x && okSs gi N sc fx b y
    | _ => false
  | .whl c b, st => match st with
    | .While t x [] _ => okE gi N sc c t && tst c && okSs gi N sc fx b x
    | _ => false
  | .for_ g it b, st => match st with
    | .For tg iter x [] _ => okI gi N sc it tg iter && okG N sc true g tg && disj g fx && notSet iter && okSs gi N sc fx b x
    | _ => false
  | .ret o, st => match st, o with
    | .Return none _, .none => true
    | .Return (some v) _, .some a => okE gi N sc a v
    | _, _ => false
  | .brk, st => match st with
    | .Break _ => true
    | _ => false
  | .cnt, st => match st with
    | .Continue _ => true
    | _ => false
  | .pass, st => match st with
    | .Pass _ => true
    | .Expr (.Constant (.str _) _ _) _ => true
    | _ => false
  | .rse c a, st => match st with
    | .Raise (some (.Call (.Name x _) [y] [] _)) none _ => glB sc x && decide (gi.exc[c]? = some x) && okE gi N sc a y && noStar y
    | _ => false
def okSs (gi : Gi) (N : List Str) (sc : Scope) (fx : List Nat) : Ss → List Stmt → Bool
  | .nil, l => l.isEmpty
  | .cons s r, l => match l with
    | st :: l => okS gi N sc fx s st && okSs gi N sc fx r l
    | [] => false
end
section
variable {X : Cx} {ca : Nat → Addr} {W : WX} {cl : Call} {gi : Gi} {N : List Str} {sc : Scope} {fx : List Nat} {pos p : Pos}
theorem disj_ok {g : Tg} (h : disj g fx = true) : ∀ i ∈ tgs g, i ∉ fx := fun i hi hf => by
  unfold disj at h
  have := List.all_eq_true.mp h i hi
  simp [hf] at this
theorem loc_ok {i : Nat} {x : Str} {top : Bool} (G : GoodX X ca cl W gi N sc top) (h : locB N sc i x = true) : X.N[i]? = some x ∧ X.env.scope.names.lookup x = some .local := by
  unfold locB at h
  simp only [Bool.and_eq_true, decide_eq_true_eq] at h
  rw [G.hN, G.hsc]
  exact h
theorem assign_one {e : Expr} {env : PySem.Env} (h : noStar e = true) : (assignEach [e] env).map (·.2) = [assign e env] := by
  rw [assignEach_ok h]
  rfl
theorem sole {t e : Expr} {l : Nat} {env : PySem.Env} : swapsWithSole [t] e l env = swapsWith e (some t) l env := rfl
theorem nfx {i : Nat} (h : (!fx.contains i) = true) : i ∉ fx := fun hf => by simp [hf] at h
theorem assign_sub {o i : Expr} {env : PySem.Env} (h : plainB i = true) : ∀ v, assign (.Subscript o i p) env v = (do
      let ov ← holding [v] (eval o env)
      let iv ← holding [v, ov] (eval i env)
      standAt p
      holding [v, ov, iv] (setItem ov iv v)
      release [v, ov, iv] []) := fun v => by
  cases i <;> first | rfl | (simp [plainB] at h)
/-- x[k], by values, of a list or a dict -/
def rGet (K : PySem.W.Frag) (ca : Nat → Addr) : V → V → Hp → VK → Prop := fun o i H Q => ∃ t d ps r, Sp K ca H ps [(t, o), (.im d, i)] ∧ seqD t = true ∧ idxF t (.im d) = some r ∧ ∀ v, Sp K ca H ps [(r, v)] → Q v H
theorem getOk (hu : X.A.units + 150 < cLine) : PGet X (rGet X.K ca) := by
  intro pins s σ H o i ov iv Q I ro ri ⟨t, d, ps, r, sp, hs, e, k⟩
  have sp2 := sp.snd
  cases t with
  | lst b ts =>
    cases d with
    | int i0 =>
      have e : getI ts i0 = some r := e
      obtain ⟨A, xs, rfl, hA, n, si⟩ := sp.itemsL
      obtain rfl := sp2.int
      obtain ⟨v0, a1, a2⟩ := getI_zip n e
      cases ro
      obtain ⟨t0, rfl⟩ := ri
      obtain ⟨its, rv, p, hz⟩ := I.list (vlst hA)
      obtain ⟨j, h1, h2, h3, h4, h5⟩ := atI_get a1
      obtain ⟨w, ew, rw'⟩ := rv.get h2
      have hl := rv.length
      have hn := line63
      have fin : EP X pins σ Q w s := ⟨v0, H, I, rw', k _ (si.only (List.mem_append_left _ a2))⟩
      by_cases h0 : 0 ≤ i0
      · have hj : i0.toNat = j := by
          rw [seqIndex_of h0 h5] at h1
          exact Option.some.inj h1
        exact wpAny_getItem_list p.isList h0 (by omega) (by rw [hj]; simpa using ew) fin
      · have hj : (i0 + (its.toArray.size : Int)).toNat = j := by
          rw [seqIndex_neg (by omega) h4] at h1
          rw [List.size_toArray, ← hl]
          exact Option.some.inj h1
        exact wpAny_getItem_list_neg p.isList (by omega) (by rw [List.size_toArray] <;> omega) (by omega) (by rw [hj]; simpa using ew) fin
    | _ => cases e
  | dct b q ks ts =>
    have e2 : (if isKey q d = true then kfind ks ts d else none) = some r := by
      cases d <;> exact e
    clear e
    split at e2
    · rename_i hk
      cases q with
      | true => exact False.elim (by simp [isKey] at hk)
      | false =>
        obtain ⟨A, xs, rfl, hA, n, si⟩ := sp.itemsD
        rcases hA.get n sp2.dat hk with ⟨q1, q2⟩ | ⟨t', v0, q1, q2, q3⟩
        · rw [q1] at e2; cases e2
        · rw [q1] at e2
          cases e2
          cases ro
          exact d_getItem (A := X.A) (by omega) I q2 ri fun w' s' I' rw' => ⟨v0, H, I', rw', k _ (si.only (List.mem_append_left _ q3))⟩
    · cases e2
  | _ => cases hs
theorem S_augS {i : Nat} {k a : E} {ei ek ea : Expr} {p1 : Pos} (hpl : plainB ek = true) (hu : X.A.units + 150 < cLine) (hv : PE X ei (tVar i)) (hk : PE X ek (tE X.K ca W true (evX cl true k))) (he : PE X ea (tE X.K ca W true (evX cl true a))) :
    PS X (.AugAssign (.Subscript ei ek p1) .Add ea pos) (tS X.K ca W fx (evS cl (.augS i k a))) := by
  refine PS.imp (ps_augS hv hk (getOk (ca := ca) hu) he ip_add (setOk (ca := ca) hu) (fun ov iv new => by cases ek <;> first | rfl | (simp [plainB] at hpl))) fun D σ H ⟨τ, Θ, o, z⟩ => ?_
  simp only [evS] at z
  split at z
  · rename_i t0 h0
    show tVar i σ H fun o H1 => tE X.K ca W true (evX cl true k) σ H1 fun i H2 => rGet X.K ca o i H2 fun x H3 => tE X.K ca W true (evX cl true a) σ H3 fun y H4 => ipI (fun i j => i + j) x y H4 fun z H5 => rSetF X.K ca o i z H5 fun H6 => D.nx σ H6
    refine L_late o.fit h0 fun vo hvo => tE.use o z.rb fun kt τ1 vk H1 p g => ?_
    split at p
    · rename_i d t hd ht
      obtain rfl := datum_some hd
      split at p
      · rename_i hsd
        split at p
        · rename_i x hx
          refine ⟨t, d, _, _, g.base.look ht hvo g.look, hsd, hx, fun v s0 => ?_⟩
          obtain rfl := s0.int
          have g1 : Sp X.K ca H1 ((.im d, vk) :: (prs τ1 σ ++ Θ)) [] := g.look.hold rfl
          have ow : Ow X.K ca τ1 σ ([(.im d, vk)] ++ Θ) H1 := ⟨g.fit, g1.perm List.perm_middle.symm⟩
          refine tE.use1 (Θ' := [(.im d, vk)]) ow p.rb fun yt τ2 vy H2 p2 g2 => ?_
          split at p2
          · rename_i y t2 hy ht2
            obtain rfl := intOf_some hy
            obtain rfl := g2.look.int
            refine ⟨x, y, rfl, rfl, ?_⟩
            split at p2
            · rename_i t' hset
              refine ⟨t2, .im d, .im (.int (x + y)), prs (τ2.set i none) σ ++ Θ, t', ?_, hset, fun H3 s3 => p2 σ H3 ?_ .rfl⟩
              · have s2 : Sp X.K ca H2 ((.im (.int (x + y)), .int (x + y)) :: (prs τ2 σ ++ ([(.im d, vk)] ++ Θ))) [] := g2.base.sp.giveI
                have s3 := s2.peek (p := (.im d, vk)) (by simp)
                have p1 := (prs_out ht2 hvo).append_right Θ
                have s4 : Sp X.K ca H2 ((.im (.int (x + y)), .int (x + y)) :: (prs τ2 σ ++ Θ)) [(.im d, vk)] := by
                  refine Sp.drop1 (p := (.im d, vk)) (s3.perm ?_)
                  have := List.perm_middle (a := (T.im d, vk)) (l₁ := (T.im (.int (x + y)), V.int (x + y)) :: prs τ2 σ) (l₂ := Θ)
                  simpa using this
                exact s4.perm ((List.Perm.cons _ p1).trans (.swap _ _ _))
              · refine ⟨g2.fit.setS hvo, ?_⟩
                have p2 := (prs_put (t := t') hvo (at_lt ht2)).append_right Θ
                exact s3.perm p2.symm
            · exact p2.elim
          · exact p2.elim
        · exact p.elim
      · exact p.elim
    · exact p.elim
  · exact z.elim
end
section
variable {ca : Nat → Addr} {cl : Call} {gi : Gi} {X : Cx} {W : WX} {N : List Str} {sc : Scope} {fx : List Nat}
theorem soundAsg {g : Tg} {a : E} {tg x : Expr} {p : Pos} (hk : sc.kind = .function) (G : GoodX X ca cl W gi N sc true) (h : okS gi N sc fx (.asg g a) (.Assign [tg] x p) = true) : PS X (.Assign [tg] x p) (tS X.K ca W fx (evS cl (.asg g a))) := by
  unfold okS at h
  simp only [Bool.and_eq_true] at h
  obtain ⟨⟨⟨h1, h2⟩, h3⟩, h4⟩ := h
  have hE := (soundE a G h1).1 false
  have hG := okG_ok (ca := ca) G h2
  have hd := disj_ok h3
  split at h4
  · rename_i t tp
    by_cases hu : useB sc t tp x = true
    · rw [hu] at h4
      simp only [Bool.not_true, Bool.false_or] at h4
      have hsw : swapsWith x (some (.Name t tp)) p.line X.env = pure true := by rw [sw_val G.hsc hk, hu]
      split at h4
      · rename_i i e g' it ifs own
        obtain ⟨l1, l2⟩ := loc_ok G h4
        have hi : i ∉ fx := hd i (by simp [tgs])
        unfold okE at h1
        split at h1
        · simp only [Bool.and_eq_true] at h1
          obtain ⟨⟨⟨⟨⟨b1, b2⟩, b3⟩, b4⟩, b5⟩, b6⟩ := h1
          obtain ⟨o1, o2, o3, o4⟩ := own_ok b1
          have G' : GoodX X ca cl WF gi N sc true := ⟨G.hN, G.nd, G.hsc, G.calm, G.fnl, G.hu, G.gu, G.ro, G.bt, takesF, G.fn, G.val, G.exn, G.nms, G.vof, G.sub⟩
          have hp := ps_setLc (i := i) (py := tp) (own := ownN N own) (te := tE X.K ca WF false (evX cl false e)) (g := tG X.K ca g') (tt := tT X.K ca WF (evT cl ifs)) G.calm (by rw [G.hN]; exact G.nd) l1 l2 hsw (soundI it G' b2) (by rw [G.hN, G.hsc]; exact o2)
            (fun s H C cel fp => okG_ok (ca := ca) (G.blk (s := s) (H := H) (C := C) (cel := cel) (fp := fp)) b3) (fun s H C cel fp => soundIf ifs (G.blk (s := s) (H := H) (C := C) (cel := cel) (fp := fp)) b4)
            (fun s H C cel fp => (soundE e (G.blk (s := s) (H := H) (C := C) (cel := cel) (fp := fp)) b5).1 false) (folded_ok b6)
          rw [o1] at hp
          exact S_asgU hp (fun σ H Q q => lc_imp o3 o4 q) hi
        · cases h1
      · rename_i i kk ke ve g' it ifs own
        obtain ⟨l1, l2⟩ := loc_ok G h4
        have hi : i ∉ fx := hd i (by simp [tgs])
        unfold okE at h1
        split at h1
        · simp only [Bool.and_eq_true, Bool.not_eq_true'] at h1
          obtain ⟨⟨⟨⟨⟨⟨⟨b0, b1⟩, b2⟩, b3⟩, b4⟩, b5⟩, b7⟩, b6⟩ := h1
          subst b0
          obtain ⟨o1, o2, o3, o4⟩ := own_ok b1
          have G' : GoodX X ca cl WF gi N sc true := ⟨G.hN, G.nd, G.hsc, G.calm, G.fnl, G.hu, G.gu, G.ro, G.bt, takesF, G.fn, G.val, G.exn, G.nms, G.vof, G.sub⟩
          have hp := ev_setDc (i := i) (py := tp) (own := ownN N own) (tk := tE X.K ca WF false (evX cl false ke)) (tv := tE X.K ca WF false (evX cl false ve)) (g := tG X.K ca g') (tt := tT X.K ca WF (evT cl ifs)) G.calm (by rw [G.hN]; exact G.nd) l1 l2 hsw (soundI it G' b2) (by rw [G.hN, G.hsc]; exact o2)
            (fun s H C cel fp => okG_ok (ca := ca) (G.blk (s := s) (H := H) (C := C) (cel := cel) (fp := fp)) b3) (fun s H C cel fp => soundIf ifs (G.blk (s := s) (H := H) (C := C) (cel := cel) (fp := fp)) b4)
            (fun s H C cel fp => (soundE ke (G.blk (s := s) (H := H) (C := C) (cel := cel) (fp := fp)) b5).1 false)
            (fun s H C cel fp => (soundE ve (G.blk (s := s) (H := H) (C := C) (cel := cel) (fp := fp)) b7).1 false) (folded_ok b6)
          rw [o1] at hp
          exact S_asgU hp (fun σ H Q q => dc_imp o3 o4 q) hi
        · cases h1
      · cases h4
    · refine S_asg hE hG hd ?_ swap_name (assign_one rfl)
      show swapsWith x (some (.Name t tp)) p.line X.env = pure false
      rw [sw_val G.hsc hk]
      simp only [Bool.not_eq_true] at hu
      rw [hu]
  · rename_i ts k0 p0
    refine S_asg hE hG hd (by rw [sole]; exact sw_tup) ?_ (assign_one rfl)
    split at h4
    · exact swap_no G.hsc h4
    · rename_i hne
      exact swap_ntup fun vs k2 q e => hne vs k2 q e
  · cases h4
mutual
theorem soundS : ∀ (s : S) {st : Stmt}, sc.kind = .function → PassesOwn (model X.prog X.w) X.A X.env X.xe → GoodX X ca cl W gi N sc true → okS gi N sc fx s st = true → PS X st (tS X.K ca W fx (evS cl s))
  | .asg g a, st, hk, po, G, h => by
    have h0 := h
    unfold okS at h
    split at h
    · exact soundAsg hk G h0
    · cases h
  | .sub i k a, st, hk, po, G, h => by
    unfold okS at h
    split at h
    · simp only [Bool.and_eq_true] at h
      obtain ⟨⟨⟨h1, h2⟩, h3⟩, h4⟩ := h
      exact S_sub G.hu (vis_ok G h1) ((soundE k G h2).1 true) ((soundE a G h3).1 false) (assign_sub h4) (by rw [sole]; exact sw_sub) swap_sub (assign_one rfl)
    · cases h
  | .par i j a b, st, hk, po, G, h => by
    unfold okS at h
    split at h
    · simp only [Bool.and_eq_true, decide_eq_true_eq] at h
      obtain ⟨⟨⟨⟨⟨⟨⟨h1, h2⟩, h3⟩, h4⟩, h5⟩, h6⟩, h7⟩, h8⟩ := h
      obtain ⟨l1, l2⟩ := loc_ok G h1
      obtain ⟨l3, l4⟩ := loc_ok G h2
      exact S_par (ta := tNil) (ps_par G.calm (by rw [G.hN]; exact G.nd) l1 l3 h3 l2 l4 ((soundL _ G).1 h4) (by rw [swap_yes G.hsc h7, h8]) (by rw [sole]; exact sw_tup)) (nfx h5) (nfx h6)
    · cases h
  | .par3 i j l a b c, st, hk, po, G, h => by
    unfold okS at h
    split at h
    · simp only [Bool.and_eq_true, decide_eq_true_eq] at h
      obtain ⟨⟨⟨⟨⟨⟨⟨⟨⟨⟨⟨h1, h2⟩, h3⟩, h4⟩, h5⟩, h6⟩, h7⟩, h8⟩, h9⟩, h10⟩, h11⟩, h12⟩ := h
      obtain ⟨l1, l2⟩ := loc_ok G h1
      obtain ⟨l3, l4⟩ := loc_ok G h2
      obtain ⟨l5, l6⟩ := loc_ok G h3
      exact S_par3 (ta := tNil) (ps_par3 G.calm (by rw [G.hN]; exact G.nd) l1 l3 l5 h4 h5 h6 l2 l4 l6 ((soundL _ G).1 h7) (by rw [swap_yes G.hsc h11, h12]) (by rw [sole]; exact sw_tup)) (nfx h8) (nfx h9) (nfx h10)
    · cases h
  | .aug i a, st, hk, po, G, h => by
    unfold okS at h
    split at h
    · simp only [Bool.and_eq_true, decide_eq_true_eq] at h
      obtain ⟨⟨⟨rfl, h1⟩, h2⟩, h3⟩ := h
      obtain ⟨l1, l2⟩ := loc_ok G h1
      exact S_aug (ps_aug (by rw [G.hN]; exact G.nd) l1 (.inl l2) ((soundE a G h2).1 true) ip_add (.inr l2)) (nfx h3)
    · cases h
  | .augS i k a, st, hk, po, G, h => by
    unfold okS at h
    split at h
    · simp only [Bool.and_eq_true, decide_eq_true_eq] at h
      obtain ⟨⟨⟨⟨rfl, h1⟩, h2⟩, h3⟩, h4⟩ := h
      exact S_augS h4 G.hu (vis_ok G h1) ((soundE k G h2).1 true) ((soundE a G h3).1 true)
    · cases h
  | .ex a, st, hk, po, G, h => by
    unfold okS at h
    split at h
    · simp only [Bool.and_eq_true, Bool.not_eq_true'] at h
      exact S_ex (ps_expr ((soundE a G h.1).1 true) (sw_no h.2))
    · cases h
  | .ife c a b, st, hk, po, G, h => by
    unfold okS at h
    split at h
    · simp only [Bool.and_eq_true] at h
      obtain ⟨⟨⟨h1, h2⟩, h3⟩, h4⟩ := h
      exact S_ife ((soundE c G h1).2 h2) (soundSs a hk po G h3) (soundSs b hk po G h4)
    · cases h
  | .whl c b, st, hk, po, G, h => by
    unfold okS at h
    split at h
    · simp only [Bool.and_eq_true] at h
      obtain ⟨⟨h1, h2⟩, h3⟩ := h
      exact S_whl po ((soundE c G h1).2 h2) (soundSs b hk po G h3)
    · cases h
  | .for_ g it b, st, hk, po, G, h => by
    unfold okS at h
    split at h
    · simp only [Bool.and_eq_true] at h
      obtain ⟨⟨⟨⟨h1, h2⟩, h3⟩, h4⟩, h5⟩ := h
      exact S_for po G.calm (soundI it G h1) (okG_ok G h2) (soundSs b hk po G h5) (disj_ok h3) (folded_ok h4)
    · cases h
  | .ret o, st, hk, po, G, h => by
    unfold okS at h
    split at h
    · exact S_retN
    · exact S_ret ((soundE _ G h).1 false)
    · cases h
  | .brk, st, hk, po, G, h => by
    unfold okS at h
    split at h
    · exact S_brk
    · cases h
  | .cnt, st, hk, po, G, h => by
    unfold okS at h
    split at h
    · exact S_cnt
    · cases h
  | .pass, st, hk, po, G, h => by
    unfold okS at h
    split at h
    · exact S_pass
    · exact S_doc
    · cases h
  | .rse c a, st, hk, po, G, h => by
    unfold okS at h
    split at h
    · simp only [Bool.and_eq_true, decide_eq_true_eq] at h
      obtain ⟨⟨⟨h1, h2⟩, h3⟩, h4⟩ := h
      obtain ⟨j1, j2⟩ := G.exn _ _ h2
      exact S_rse j1 (bt_ok G (s := "super") (by unfold btNames; simp)) G.ro G.calm G.tk (gl_ok G h1).1 j2 ((soundE a G h3).1 false) (starEach_ok h4) (gl_ok G h1).2.1
    · cases h
theorem soundSs : ∀ (s : Ss) {st : List Stmt}, sc.kind = .function → PassesOwn (model X.prog X.w) X.A X.env X.xe → GoodX X ca cl W gi N sc true → okSs gi N sc fx s st = true → PSs X st (tS X.K ca W fx (evSs cl s))
  | .nil, st, hk, po, G, h => by
    unfold okSs at h
    have : st = [] := by simpa using h
    subst this
    exact Ss_nil
  | .cons s r, st, hk, po, G, h => by
    unfold okSs at h
    split at h
    · simp only [Bool.and_eq_true] at h
      exact Ss_cons (soundS s hk po G h.1) (soundSs r hk po G h.2)
    · cases h
end
end
end EV
set_option Elab.async false
set_option linter.all false
set_option maxRecDepth 100000
set_option maxHeartbeats 1000000
namespace EV
open PySem PySem.Spec L2
open PyProof.Rows hiding St
/-- a def of the text: its name, its statement, its names, its parameters, those never set anew, its body -/
structure Df where
  nm : Str
  st : Stmt
  N : List Str
  ps : List Str
  fx : List Nat
  body : Ss
def scB (N P : List Str) (sc : Scope) : Bool :=
  decide (sc.kind = .function) && !sc.isCoroutine && !sc.isGenerator && decide N.Nodup && decide (N.take P.length = P) && (P.all fun x => decide (sc.names.lookup x = some .local) || decide (sc.names.lookup x = some .cell)) && (sc.names.all fun y => decide (y.2 ≠ .free))
def chk (gi : Gi) (d : Df) : Bool := scB d.N d.ps (defScope d.st) && (d.fx.all fun i => decide (i < d.ps.length)) && okSs gi d.N (defScope d.st) d.fx d.body (defBody d.st)
theorem scB_ok {N P : List Str} {sc : Scope} (h : scB N P sc = true) : FnScope N P sc := by
  unfold scB at h
  simp only [Bool.and_eq_true, decide_eq_true_eq, Bool.not_eq_true', List.all_eq_true, Bool.or_eq_true] at h
  obtain ⟨⟨⟨⟨⟨⟨h1, h2⟩, h3⟩, h4⟩, h5⟩, h6⟩, h7⟩ := h
  exact ⟨h1, h2, h3, h4, h5, h6, h7⟩
def giOf (ds : List Df) (val : List (Str × D)) (exc nms : List Str) (sub : List (Str × List Bool)) : Gi := ⟨ds.map fun d => (d.nm, d.ps.length), val, exc, nms, sub⟩
noncomputable def tabOf (ds : List Df) : Nat → Call → List T → FRes := fun f cl => match ds[f]? with
  | some d => evFn cl d.ps.length d.N.length d.fx d.body
  | none => fun _ => .bad
section
variable {P : Program} {w : World} {K : PySem.W.Frag} {mg : Str → Option Value} {base : Heap} {ca : Nat → Addr} {ds : List Df} {val : List (Str × D)} {exc nms : List Str} {sub : List (Str × List Bool)}
/-- what the heap says of a def -/
def FnAt (K : PySem.W.Frag) (mg : Str → Option Value) (d : Df) (f : Addr) (fd : FuncData) : Prop :=
  FunD K d.nm d.nm (defArgs d.st) (defBody d.st) (defScope d.st) [] [] f fd ∧ mg d.nm = some (.ref f) ∧ Binds K fd d.ps []
def ValAt (K : PySem.W.Frag) (ca : Nat → Addr) (mg : Str → Option Value) (nm : Str) (d : D) : Prop := ∃ v u, mg nm = some u ∧ RelV v u ∧ ∀ ps H, Sp K ca H ps [] → Sp K ca H ((.im d, v) :: ps) []
/-- every def keeps its promise, at each depth of calls -/
theorem all_ok (hc : ds.all (chk (giOf ds val exc nms sub)) = true) (hF : ∀ d ∈ ds, ∃ f fd, FnAt K mg d f fd) (hb : ∀ x ∈ btNames, mg x = none) (hv : ∀ nm d, (nm, d) ∈ val → ValAt K ca mg nm d) (hx : ∀ c nm, exc[c]? = some nm → JExc P K (ca c) ∧ mg nm = some (.ref (ca c)))
    (hn : ∀ c nm, nms[c]? = some nm → RpC K (ca c) nm) (ho : ∀ c, c < exc.length → XfC K (ca c) ∧ PySem.W.findIn K (.ref (ca c)) "value" = some none) (hs : ∀ nm cs, (nm, cs) ∈ sub → SubAt K ca mg nm cs) :
    ∀ k i d f fd, ds[i]? = some d → FnAt K mg d f fd → FnG P w K mg base k f fd d.ps (spEV K ca (callK (tabOf ds) k i) d.ps.length)
  | 0, i, d, f, fd, hi, hf => ⟨fun vs H Q E h => h.1, fun A outer s H args us vs Q E _ hr he hbd hv hs => by
      obtain ⟨_, ts, Θ, _, _, z⟩ := hs
      exact z.elim⟩
  | k + 1, i, d, f, fd, hi, hf => by
    have hm : d ∈ ds := List.mem_of_getElem? hi
    have hd := List.all_eq_true.mp hc d hm
    unfold chk at hd
    simp only [Bool.and_eq_true, List.all_eq_true, decide_eq_true_eq] at hd
    obtain ⟨⟨h1, h2⟩, h3⟩ := hd
    have S := scB_ok h1
    have e : callK (tabOf ds) (k + 1) i = evFn (callK (tabOf ds) k) d.ps.length d.N.length d.fx d.body := by
      show tabOf ds i (callK (tabOf ds) k) = _
      unfold tabOf
      rw [hi]
    rw [e]
    refine fn_ev hf.1 S h2 fun cdv A outer s H E gu hr => ?_
    refine soundSs (X := cxOf (CX P w) P w K mg base d.N d.nm (defScope d.st) f cdv A outer s H E) (gi := giOf ds val exc nms sub) (N := d.N) (sc := defScope d.st) d.body S.kind (passes_of rfl) ?_ h3
    refine ⟨rfl, S.nd, rfl, rfl, fun _ x => rfl, ?_, gu, hr.mono (Nat.zero_le _), hb, takes_of rfl rfl rfl rfl, fun f2 nm n hq => ?_, hv, hx, hn, ho, hs⟩
    · have := hr.un
      show (A.deeper (envOfC d.nm (defScope d.st) s.heap.objs.size f cdv)).units + 150 < cLine
      omega
    · have hq' : (ds.map fun d => (d.nm, d.ps.length))[f2]? = some (nm, n) := hq
      rw [List.getElem?_map] at hq'
      obtain ⟨d2, hd2, e2⟩ := Option.map_eq_some_iff.mp hq'
      cases e2
      obtain ⟨fa, fd2, hf2⟩ := hF d2 (List.mem_of_getElem? hd2)
      exact ⟨k, fa, fd2, d2.ps, all_ok hc hF hb hv hx hn ho hs k f2 d2 fa fd2 hd2 hf2, gu, hr, hf2.2.1, hf2.1.kp, hf2.2.2⟩
/-- constants that need no room -/
theorem val_int {nm : Str} {i : Int} {t : Tok} (h : mg nm = some (.int i t)) : ValAt K ca mg nm (.int i) := ⟨.int i, _, h, ⟨t, rfl⟩, fun ps H sp => sp.giveI⟩
theorem val_str {nm : Str} {i : Str} {t : Tok} (h : mg nm = some (.str i t)) : ValAt K ca mg nm (.str i) := ⟨.str i, _, h, ⟨t, rfl⟩, fun ps H sp => sp.giveS⟩
/-- the script, a list of ints, as a value -/
theorem script_sp {H : Hp} {a : Addr} {ns : List Int} (h : FzL K H a (ns.map V.int)) : Sp K ca H [(.lst false (ns.map fun i => .im (.int i)), .ref a)] [] := by
  have hz : ∀ ns : List Int, Reps K ca H (ns.map fun i => T.im (.int i)) (ns.map V.int) [] [] := fun ns => by
    induction ns with
    | nil => unfold List.map Reps; exact ⟨rfl, rfl, rfl⟩
    | cons n ns ih =>
      rw [List.map_cons, List.map_cons]
      unfold Reps
      exact ⟨_, _, [], [], [], [], rfl, by unfold Rep RepD; exact ⟨rfl, rfl, rfl⟩, ih, rfl, rfl⟩
  refine ⟨[], [], [], [], ⟨[], [], [], [], ?_, ⟨rfl, rfl⟩, rfl, rfl⟩, by simp, by simp, ⟨rfl, rfl⟩, by simp⟩
  unfold Rep
  exact ⟨a, _, [], [], rfl, hz ns, .inr ⟨rfl, h, rfl, rfl⟩⟩
end
end EV
set_option Elab.async false
set_option linter.all false
set_option maxRecDepth 100000
set_option maxHeartbeats 2000000
namespace EV
open PySem PySem.Spec L2
open PyProof.Rows hiding St
/-! ### what the written part says of the error classes, by a look -/
def vstr (s : Str) (t : Str) : Bool := decide (s = t)
def jBody : List Stmt → Bool
  | [.Expr (.Call (.Attribute (.Call (.Name s _) [] [] _) i a) [.Name v _] [] c) _, .Assign [.Attribute (.Name se _) w _] (.Name v2 _) _] =>
    vstr s "super" && (vstr i "__init__" && (vstr v "value" && (vstr se "self" && (vstr w "value" && (vstr v2 "value" && (a.endLine == c.line))))))
  | _ => false
theorem jBody_ok {b : List Stmt} (h : jBody b = true) : ∃ p0 p1 p2 p3 p4 p5 p6 p7 p8 p9 : Pos,
    b = [.Expr (.Call (.Attribute (.Call (.Name "super" p0) [] [] p1) "__init__" p2) [.Name "value" p3] [] p4) p5, .Assign [.Attribute (.Name "self" p6) "value" p7] (.Name "value" p8) p9] ∧ (p2.endLine == p4.line) = true := by
  unfold jBody at h
  split at h
  · obtain ⟨h1, h⟩ := He.ba h
    obtain ⟨h2, h⟩ := He.ba h
    obtain ⟨h3, h⟩ := He.ba h
    obtain ⟨h4, h⟩ := He.ba h
    obtain ⟨h5, h⟩ := He.ba h
    obtain ⟨h6, h⟩ := He.ba h
    have e1 := of_decide_eq_true h1
    have e2 := of_decide_eq_true h2
    have e3 := of_decide_eq_true h3
    have e4 := of_decide_eq_true h4
    have e5 := of_decide_eq_true h5
    have e6 := of_decide_eq_true h6
    subst e1 e2 e3 e4 e5 e6
    exact ⟨_, _, _, _, _, _, _, _, _, _, rfl, h⟩
  · cases h
def jPar : Arguments → Bool
  | ⟨[], [⟨s, none, _⟩, ⟨v, none, _⟩], none, [], [], none, []⟩ => vstr s "self" && vstr v "value"
  | _ => false
theorem jPar_ok {a : Arguments} (h : jPar a = true) : ∃ p q : Pos, a = ⟨[], [⟨"self", none, p⟩, ⟨"value", none, q⟩], none, [], [], none, []⟩ := by
  unfold jPar at h
  split at h
  · obtain ⟨h1, h2⟩ := He.ba h
    have e1 := of_decide_eq_true h1
    have e2 := of_decide_eq_true h2
    subst e1 e2
    exact ⟨_, _, rfl⟩
  · cases h
theorem jPar_bind {qual : Str} {body : List Stmt} {scope : Scope} {doc pm ct cda : Value} {an : Option Addr} {cc : Addr} {p q : Pos} (s : Shared) (a u : Value) :
    BindsTo s (PySem.W.ksFn "__init__" qual ⟨[], [⟨"self", none, p⟩, ⟨"value", none, q⟩], none, [], [], none, []⟩ body scope .none .none doc pm an cda ct cc) ⟨[a, u], []⟩ [("self", a), ("value", u)] := .of_eq rfl
/-- the class object -/
def oexB (K : PySem.W.Frag) (C : Addr) : Bool := (match K.lookup C with
  | some ⟨.type c, _, .cls cd, sl⟩ => (match cd.mro, sl.toList with
    | .ref C' :: bm, [_, _, _, _, some (.builtin n), _] => decide (c = "type") && (C' == C && (n == "ValueError.__new__" && (!cd.hasDel && (cd.hasDict && PySem.HandSPX.refsVE bm))))
    | _, _ => false)
  | _ => false) && (He.eqO (PySem.W.findIn K (.ref C) "__setattr__") (some (some (.builtin "object.__setattr__"))) && (decide (PySem.W.subIn K (.ref C) (.type "BaseException") = some true) && (decide (PySem.W.typeIn K (.ref C) = some (.type "type")) && PySem.W.keepIn K (.ref C))))
theorem oexB_ok {K : PySem.W.Frag} {C : Addr} (h : oexB K C = true) : OexC K C := by
  obtain ⟨h1, h⟩ := He.ba h
  obtain ⟨h2, h⟩ := He.ba h
  obtain ⟨h3, h⟩ := He.ba h
  obtain ⟨h4, h5⟩ := He.ba h
  refine ⟨?_, He.eqO_ok h2, of_decide_eq_true h3, of_decide_eq_true h4, h5⟩
  split at h1
  · rename_i c dd cd sl ho
    split at h1
    · rename_i C' bm k0 k1 k2 k3 n k5 hm hs
      simp only [Bool.and_eq_true, beq_iff_eq, Bool.not_eq_true', decide_eq_true_eq] at h1
      obtain ⟨rfl, rfl, rfl, hdel, hdct, ht⟩ := h1
      obtain ⟨nm, bs, mro, ns, qn, hd, sn, sub, ab, col, del⟩ := cd
      dsimp only at hm hdel hdct
      subst hm hdel hdct
      obtain ⟨l⟩ := sl
      simp only at hs
      subst hs
      exact ⟨nm, qn, ns, bs, bm, sn, sub, ab, col, dd, k0, k1, k2, k3, k5, ho, ht⟩
    · cases h1
  · cases h1
def jSc (scope : Scope) : Bool := decide (scope.names.lookup ("super" : Str) = some .globalImplicit) && (decide (scope.names.lookup ("__class__" : Str) = some .free) && (decide (scope.names.lookup ("self" : Str) = some .local) && (decide (scope.names.lookup ("value" : Str) = some .local) &&
  ((scope.names.all fun x => decide (x.2 ≠ .cell)) && (!scope.isCoroutine && (!scope.isGenerator && decide (scope.kind = .function)))))))
def fileB (file0 : Str) (vs : Array Value) : Bool := match (vs[2]? : Option Value) with
  | some (.str file _) => file0 == file
  | _ => false
theorem fileB_ok {file0 : Str} {vs : Array Value} (h : fileB file0 vs = true) : ∃ file tf, vs[2]? = some (.str file tf) ∧ (file0 == file) = true := by
  unfold fileB at h
  split at h
  · rename_i file tf e
    exact ⟨file, tf, e, h⟩
  · cases h
/-- its __init__ -/
def jinB (file0 : Str) (K : PySem.W.Frag) (C fI : Addr) : Bool := match K.lookup fI with
  | some ⟨_, _, .func ⟨n, qual, params, .stmts body, scope, g, [(cn, cc)], .none, .none, _, _, _, .ref cda, _, bu⟩, _⟩ =>
    vstr n "__init__" && (decide (g = mainGlobals) && (decide (bu = builtinsNs) && (vstr cn "__class__" && (jPar params && (jBody body && (jSc scope && (PySem.W.codeIn K (.ref cda) qual &&
      ((match K.lookup cda with
        | some ⟨_, _, .fields vs, _⟩ => fileB file0 vs
        | _ => false) && (match K.lookup cc with
        | some ⟨_, _, .cell (some (.ref D)), _⟩ => (PySem.W.clsIn K D).isSome && (decide (PySem.W.mroIn K C (.ref D) = some true) && (match PySem.W.clsIn K C with
          | some cdC => decide (PySem.W.alongIn K "__init__" ((cdC.mro.dropWhile (· != .ref D)).drop 1) = some (some (.builtin "ValueError.__init__")))
          | none => false))
        | _ => false)))))))))
  | _ => false
def jxB (file0 : Str) (K : PySem.W.Frag) (C : Addr) : Bool := oexB K C && ((match PySem.W.findIn K (.ref C) "__init__" with
  | some (some (.ref fI)) => decide (PySem.W.typeIn K (.ref fI) = some (.type "function")) && jinB file0 K C fI
  | _ => false) && (decide (PySem.W.subIn K (.ref C) (.type "ValueError") = some true) && (He.eqO (PySem.W.nsIn K cStatics "thirdparty.any") (some none) && He.eqO (PySem.W.findIn K (.ref C) "value") (some none))))
theorem jxB_ok {prog : Program} {file0 : Str} {K : PySem.W.Frag} {C : Addr} (hf : prog.main.file = file0) (ht : (prog.main.scope.names.lookup ("super" : Str)).isSome = false) (h : jxB file0 K C = true) : JExc prog K C := by
  obtain ⟨h1, h⟩ := He.ba h
  obtain ⟨h2, h⟩ := He.ba h
  obtain ⟨h3, h⟩ := He.ba h
  obtain ⟨h4, h5⟩ := He.ba h
  subst hf
  refine ⟨oexB_ok h1, ?_⟩
  split at h2
  case h_2 => cases h2
  rename_i fI hfI
  obtain ⟨h6, h7⟩ := He.ba h2
  unfold jinB at h7
  split at h7
  case h_2 => cases h7
  rename_i oc od n qual params body scope g cn cc doc pm an cda ct bu osl ho
  obtain ⟨g1, h7⟩ := He.ba h7
  obtain ⟨g2, h7⟩ := He.ba h7
  obtain ⟨g3, h7⟩ := He.ba h7
  obtain ⟨g4, h7⟩ := He.ba h7
  obtain ⟨g5, h7⟩ := He.ba h7
  obtain ⟨g6, h7⟩ := He.ba h7
  obtain ⟨g7, h7⟩ := He.ba h7
  obtain ⟨g8, h7⟩ := He.ba h7
  obtain ⟨g9, g10⟩ := He.ba h7
  have e1 := of_decide_eq_true g1
  have e2 := of_decide_eq_true g2
  have e3 := of_decide_eq_true g3
  have e4 := of_decide_eq_true g4
  subst e1 e2 e3 e4
  obtain ⟨q1, q2, rfl⟩ := jPar_ok g5
  obtain ⟨p0, p1, p2, p3, p4, p5, p6, p7, p8, p9, rfl, hpos⟩ := jBody_ok g6
  unfold jSc at g7
  simp only [Bool.and_eq_true, decide_eq_true_eq, Bool.not_eq_true', List.all_eq_true] at g7
  obtain ⟨s1, s2, s3, s4, s5, s6, s7, s8⟩ := g7
  split at g9
  case h_2 => cases g9
  rename_i ccl cdd vs ccs hcda
  obtain ⟨file, tf, hvs, g9⟩ := fileB_ok g9
  split at g10
  case h_2 => cases g10
  rename_i cl cld D csl hcc
  obtain ⟨k1, k2⟩ := He.ba g10
  obtain ⟨k2, k3⟩ := He.ba k2
  obtain ⟨cdD, hcdD⟩ := Option.isSome_iff_exists.mp k1
  split at k3
  case h_2 => cases k3
  rename_i cdC hcdC
  exact ⟨D, fI, cda, cc, qual, _, _, scope, .none, .none, doc, pm, ct, oc, ccl, cl, an, od, cdd, cld, osl, ccs, csl, vs, file, tf, cdD, cdC, p0, p1, p2, p3, p4, p5, p6, p7, p8, p9, ⟨"self", none, q1⟩,
    hfI, of_decide_eq_true h6, ho, g8, hcda, hvs, g9, hcc, hcdD, of_decide_eq_true k2, hcdC, of_decide_eq_true k3, of_decide_eq_true h3, He.eqO_ok h4, He.eqO_ok h5, rfl, s1, s2, s3, s4, s5, s6, s7, s8, rfl, rfl, ht, hpos, fun s a u => jPar_bind s a u⟩
/-- for repr -/
def rpB (K : PySem.W.Frag) (C : Addr) (nm : Str) : Bool := He.eqO (PySem.W.findIn K (.ref C) "__repr__") (some (some (.builtin "BaseException.__repr__"))) && ((match PySem.W.clsIn K C with
  | some cd => decide (Str.ofString ((cd.name.toString.cutAt '.').getLastD "") = nm)
  | none => false) && decide (PySem.W.subIn K (.ref C) (.type "BaseException") = some true))
theorem rpB_ok {K : PySem.W.Frag} {C : Addr} {nm : Str} (h : rpB K C nm = true) : RpC K C nm := by
  obtain ⟨h1, h⟩ := He.ba h
  obtain ⟨h2, h3⟩ := He.ba h
  refine ⟨He.eqO_ok h1, ?_, of_decide_eq_true h3⟩
  split at h2
  · rename_i cd hc
    exact ⟨cd, hc, of_decide_eq_true h2⟩
  · cases h2
def excB (K : PySem.W.Frag) (D : Addr) : Bool := He.eqO (PySem.W.findIn K (.ref D) "__getattribute__") (some (some (.builtin "BaseException.__getattribute__"))) && (He.eqO (PySem.W.findIn K (.ref D) "__getattr__") (some none) && (decide (PySem.W.subIn K (.ref D) (.type "BaseException") = some true) &&
  (PySem.W.hasDictIn K D && (He.eqO (PySem.W.findIn K (.ref D) "__class__") (some (some (.builtin "object.__class__"))) && (He.eqO (PySem.W.specialIn K (.builtin "object.__class__") "__get__") (some (some (.builtin "getset_descriptor.__get__"))) &&
  (decide (PySem.W.takesIn K (.builtin "object.__class__") = some true) && decide (PySem.W.mroIn K D (.type "object") = some true)))))))
theorem excB_ok {K : PySem.W.Frag} {D : Addr} (h : excB K D = true) : ExcC K D := by
  obtain ⟨h1, h⟩ := He.ba h
  obtain ⟨h2, h⟩ := He.ba h
  obtain ⟨h3, h⟩ := He.ba h
  obtain ⟨h4, h⟩ := He.ba h
  obtain ⟨h5, h⟩ := He.ba h
  obtain ⟨h6, h⟩ := He.ba h
  obtain ⟨h7, h8⟩ := He.ba h
  exact ⟨He.eqO_ok h1, He.eqO_ok h2, of_decide_eq_true h3, h4, He.eqO_ok h5, He.eqO_ok h6, of_decide_eq_true h7, of_decide_eq_true h8⟩
/-- all of the classes called exc (the error class of number n is the n-th) -/
def caOf (exc : List Str) (K : PySem.W.Frag) (n : Nat) : Addr := match exc[n]? with
  | some x => He.ga K x
  | none => 0
def subB (exc : List Str) (K : PySem.W.Frag) (q : Str × List Bool) : Bool :=
  (List.range q.2.length).all fun n => match q.2[n]? with
    | some b => excB K (caOf exc K n) && decide (PySem.W.kitOne K (.ref (caOf exc K n)) (if q.1 = "ValueError" then .type "ValueError" else .ref (He.ga K q.1)) = some b)
    | none => true
def allB (file0 : Str) (exc nms : List Str) (sub : List (Str × List Bool)) (K : PySem.W.Frag) : Bool :=
  (exc.all fun x => jxB file0 K (He.ga K x) && (xfB K (He.ga K x) && He.eqO (PySem.W.findIn K (.ref (He.ga K x)) "value") (some none))) &&
    (((List.range nms.length).all fun n => match nms[n]? with
      | some nm => rpB K (caOf exc K n) nm
      | none => true) && sub.all fun q => subB exc K q)
section
variable {prog : Program} {file0 : Str} {exc nms : List Str} {sub : List (Str × List Bool)} {K : PySem.W.Frag}
theorem allB_exc (h : allB file0 exc nms sub K = true) (hf : prog.main.file = file0) (ht : (prog.main.scope.names.lookup ("super" : Str)).isSome = false) {c : Nat} {x : Str} (e : exc[c]? = some x) :
    JExc prog K (caOf exc K c) ∧ caOf exc K c = He.ga K x ∧ XfC K (caOf exc K c) ∧ PySem.W.findIn K (.ref (caOf exc K c)) "value" = some none := by
  obtain ⟨h1, _⟩ := He.ba h
  have h2 := List.all_eq_true.mp h1 x (List.mem_of_getElem? e)
  obtain ⟨h3, h4⟩ := He.ba h2
  obtain ⟨h4, h5⟩ := He.ba h4
  have e2 : caOf exc K c = He.ga K x := by unfold caOf; rw [e]
  rw [e2]
  exact ⟨jxB_ok hf ht h3, rfl, xfB_ok h4, He.eqO_ok h5⟩
theorem allB_nms (h : allB file0 exc nms sub K = true) {c : Nat} {x : Str} (e : nms[c]? = some x) : RpC K (caOf exc K c) x := by
  obtain ⟨_, h⟩ := He.ba h
  obtain ⟨h, _⟩ := He.ba h
  obtain ⟨hc, _⟩ := List.getElem?_eq_some_iff.mp e
  have := List.all_eq_true.mp h c (List.mem_range.mpr hc)
  rw [e] at this
  exact rpB_ok this
theorem allB_sub (h : allB file0 exc nms sub K = true) {mg : Str → Option Value} (hm : ∀ q ∈ sub, q.1 ≠ "ValueError" → mg q.1 = some (.ref (He.ga K q.1))) {nm : Str} {cs : List Bool} (e : (nm, cs) ∈ sub) : SubAt K (caOf exc K) mg nm cs := by
  obtain ⟨_, h⟩ := He.ba h
  obtain ⟨_, h⟩ := He.ba h
  have h2 := List.all_eq_true.mp h _ e
  unfold subB at h2
  have key : ∀ n b, cs[n]? = some b → ExcC K (caOf exc K n) ∧ PySem.W.kitOne K (.ref (caOf exc K n)) (if nm = "ValueError" then .type "ValueError" else .ref (He.ga K nm)) = some b := fun n b eb => by
    obtain ⟨hc, _⟩ := List.getElem?_eq_some_iff.mp eb
    have := List.all_eq_true.mp h2 n (List.mem_range.mpr hc)
    simp only [eb] at this
    obtain ⟨k1, k2⟩ := He.ba this
    exact ⟨excB_ok k1, of_decide_eq_true k2⟩
  by_cases hv : nm = "ValueError"
  · refine .inr ⟨hv, fun n b eb => ?_⟩
    have := key n b eb
    rw [if_pos hv] at this
    exact this
  · refine .inl ⟨He.ga K nm, hm _ e hv, fun n b eb => ?_⟩
    have := key n b eb
    rw [if_neg hv] at this
    exact this
end
/-! ### the head's Hook: the module, the C statics, one more Bool -/
abbrev AlE : Type := He.AlD × Bool
def frE (n : Nat) (g : Addr → Option Obj) : PySem.W.Frag := He.frG g (cStatics :: He.asD g n)
def obsE (n : Nat) (fa : List He.Fa) (fn : List He.DefD) (ex : PySem.W.Frag → Bool) (g : Addr → Option Obj) : AlE := (He.obsD fa fn (frE n g), ex (frE n g))
def valE (fn : List He.DefD) : AlE := (He.valD fn, true)
def hookE (n : Nat) (fa : List He.Fa) (fn : List He.DefD) (ex : PySem.W.Frag → Bool) : PySem.W.Hook where
  α := AlE
  obs := fun s => obsE n fa fn ex s.heap.get?
  val := fun _ => valE fn
  says := fun _ h => ∃ K : PySem.W.Frag, K.In h ∧ He.SaysD fa fn K ∧ ex K = true
  of := fun _ _ e => ⟨_, He.frG_in, congrArg (fun z : AlE => z.1) e, congrArg (fun z : AlE => z.2) e⟩
  keeps := fun _ _ _ ⟨K, hK, c⟩ k => ⟨K, PySem.W.Frag.In.keeps hK k, c⟩
theorem obsE_eq {n : Nat} {fa : List He.Fa} {fn : List He.DefD} {ex : PySem.W.Frag → Bool} {g : Addr → Option Obj} {s : Shared} (h : ∀ a, g a = s.heap.get? a) : obsE n fa fn ex g = (hookE n fa fn ex).obs s := by
  have e : g = s.heap.get? := funext h
  rw [e] <;> rfl
/-- a def as the head has it -/
def dfD (d : Df) : He.DefD := ⟨(d.nm, none), d.nm, d.nm, defArgs d.st, defBody d.st, defScope d.st, [], []⟩
/-- the facts that are asked of the top -/
def faOf (ds : List Df) (exc : List Str) (sub : List (Str × List Bool)) : List He.Fa :=
  btNames.map He.Fa.free ++ (exc.map He.Fa.glo ++ ((ds.map fun d => He.Fa.glo d.nm) ++ (sub.filter fun q => decide (q.1 ≠ ("ValueError" : Str))).map fun q => He.Fa.glo q.1))
section
variable {P : Program} {w : World} {K : PySem.W.Frag} {mg : Str → Option Value} {h : Heap} {ds : List Df} {exc nms : List Str} {sub : List (Str × List Bool)} {file0 : Str}
theorem fact_ok (c : He.SaysD (faOf ds exc sub) (ds.map dfD) K) {f : He.Fa} (hf : f ∈ faOf ds exc sub) : f.ok K = true := He.SaysD.facts c hf
/-- all defs, from what the head tells -/
theorem head_ok (X : K.In h) (G : h.Ns mainGlobals mg) (c : He.SaysD (faOf ds exc sub) (ds.map dfD) K) (hx : allB file0 exc nms sub K = true) (hf : P.main.file = file0) (ht : (P.main.scope.names.lookup ("super" : Str)).isSome = false)
    (hb : ∀ d ∈ ds, ∀ (kV doc pm : Value) (an : Option Addr) (cdv ct : Value) (us : List Value), us.length = d.ps.length → bindArgs (PySem.W.fnOf d.nm d.nm (defArgs d.st) (defBody d.st) (defScope d.st) .none kV doc pm an cdv ct) ⟨us, []⟩ = pure (d.ps.zip us))
    (hc : ds.all (chk (giOf ds [] exc nms sub)) = true) (k i : Nat) {d : Df} (hi : ds[i]? = some d) : ∃ (f : Addr) (fd : FuncData), mg d.nm = some (.ref f) ∧ (∀ (s : Shared) (us : List Value), us.length = d.ps.length → BindsTo s fd ⟨us, []⟩ (d.ps.zip us)) ∧
      ∀ base : Heap, FnG P w K mg base k f fd d.ps (spEV K (caOf exc K) (callK (tabOf ds) k i) d.ps.length) := by
  have hF : ∀ d ∈ ds, ∃ f fd, FnAt K mg d f fd ∧ ∀ (s : Shared) (us : List Value), us.length = d.ps.length → BindsTo s fd ⟨us, []⟩ (d.ps.zip us) := fun d hd => by
    obtain ⟨fd, F⟩ := He.SaysD.defs c (List.mem_map_of_mem hd)
    have F' : FunD K d.nm d.nm (defArgs d.st) (defBody d.st) (defScope d.st) [] [] (He.ga K d.nm) fd := F
    refine ⟨_, fd, ⟨F', He.glo_ok X G (fact_ok c ?_), F'.bindsN (hb d hd)⟩, F'.bindsA (hb d hd)⟩
    unfold faOf
    simp only [List.mem_append, List.mem_map]
    exact .inr (.inr (.inl ⟨d, hd, rfl⟩))
  have hd : d ∈ ds := List.mem_of_getElem? hi
  obtain ⟨f, fd, A, B⟩ := hF d hd
  refine ⟨f, fd, A.2.1, B, fun base => all_ok hc (fun d hd => ?_) (fun x hx => ?_) (fun nm d hm => by cases hm) (fun c' nm e => ?_) (fun c' nm e => allB_nms hx e) (fun c' hc' => ?_) (fun nm cs e => allB_sub hx (fun q hq hv => He.glo_ok X G (fact_ok c ?_)) e) k i d f fd hi A⟩
  · obtain ⟨f, fd, A, _⟩ := hF d hd
    exact ⟨f, fd, A⟩
  · refine He.free_ok X G (fact_ok c ?_)
    unfold faOf
    simp only [List.mem_append, List.mem_map]
    exact .inl ⟨x, hx, rfl⟩
  · obtain ⟨j1, j2, _⟩ := allB_exc hx hf ht e
    refine ⟨j1, ?_⟩
    rw [j2]
    refine He.glo_ok X G (fact_ok c ?_)
    unfold faOf
    simp only [List.mem_append, List.mem_map]
    exact .inr (.inl ⟨nm, List.mem_of_getElem? e, rfl⟩)
  · obtain ⟨x, e⟩ : ∃ x, exc[c']? = some x := ⟨_, List.getElem?_eq_getElem hc'⟩
    exact (allB_exc hx hf ht e).2.2
  · unfold faOf
    simp only [List.mem_append, List.mem_map, List.mem_filter, decide_eq_true_eq]
    exact .inr (.inr (.inr ⟨q, ⟨hq, hv⟩, rfl⟩))
end
end EV
set_option Elab.async false
set_option linter.all false
set_option maxRecDepth 100000
set_option maxHeartbeats 4000000
namespace K10
open PySem EV
abbrev top (i : Nat) : Stmt := PySem.Challenge.pw_nojumpsleft_k10_errors_each_its_own.main.body.getD i (.Pass ⟨0, 0, 0, 0⟩)
abbrev F__law_pot : Nat := 0
abbrev F__law_take : Nat := 1
abbrev F__law_of : Nat := 2
abbrev F__law_cells : Nat := 3
abbrev F__law_odd : Nat := 4
abbrev F__law_all_made : Nat := 5
abbrev F__law_lots : Nat := 6
abbrev F__law_right : Nat := 7
abbrev F_law : Nat := 8
def nms : List Str := ["JumpError", "BadInt", "BadAction", "BadTest", "BadOrder", "BadProgram", "BadText", "BadInputs", "BadWeb", "BadNode", "BadBlock", "BadRows", "BadPlace", "BadRegister", "Unlike", "TooMany", "Full", "NothingToUndo", "NothingToRedo", "BadJournal", "BadLine"]
def C_BadAction : List Bool := [false, false, true, false, false, false, false, false, false, false, false, false, false, false, false, false, false, false, false, false, false]
def C_BadBlock : List Bool := [false, false, false, false, false, false, false, false, false, false, true, false, false, false, false, false, false, false, false, false, false]
def C_BadInputs : List Bool := [false, false, false, false, false, false, false, true, false, false, false, false, false, false, false, false, false, false, false, false, false]
def C_BadInt : List Bool := [false, true, false, false, false, false, false, false, false, false, false, false, false, false, false, false, false, false, false, false, false]
def C_BadJournal : List Bool := [false, false, false, false, false, false, false, false, false, false, false, false, false, false, false, false, false, false, false, true, false]
def C_BadLine : List Bool := [false, false, false, false, false, false, false, false, false, false, false, false, false, false, false, false, false, false, false, false, true]
def C_BadNode : List Bool := [false, false, false, false, false, false, false, false, false, true, false, false, false, false, false, false, false, false, false, false, false]
def C_BadOrder : List Bool := [false, false, false, false, true, false, false, false, false, false, false, false, false, false, false, false, false, false, false, false, false]
def C_BadPlace : List Bool := [false, false, false, false, false, false, false, false, false, false, false, false, true, false, false, false, false, false, false, false, false]
def C_BadProgram : List Bool := [false, false, false, false, false, true, false, false, false, false, false, false, false, false, false, false, false, false, false, false, false]
def C_BadRegister : List Bool := [false, false, false, false, false, false, false, false, false, false, false, false, false, true, false, false, false, false, false, false, false]
def C_BadRows : List Bool := [false, false, false, false, false, false, false, false, false, false, false, true, false, false, false, false, false, false, false, false, false]
def C_BadTest : List Bool := [false, false, false, true, false, false, false, false, false, false, false, false, false, false, false, false, false, false, false, false, false]
def C_BadText : List Bool := [false, false, false, false, false, false, true, false, false, false, false, false, false, false, false, false, false, false, false, false, false]
def C_BadWeb : List Bool := [false, false, false, false, false, false, false, false, true, false, false, false, false, false, false, false, false, false, false, false, false]
def C_Full : List Bool := [false, false, false, false, false, false, false, false, false, false, false, false, false, false, false, false, true, false, false, false, false]
def C_JumpError : List Bool := [true, true, true, true, true, true, true, true, true, true, true, true, true, true, true, true, true, true, true, true, true]
def C_NothingToRedo : List Bool := [false, false, false, false, false, false, false, false, false, false, false, false, false, false, false, false, false, false, true, false, false]
def C_NothingToUndo : List Bool := [false, false, false, false, false, false, false, false, false, false, false, false, false, false, false, false, false, true, false, false, false]
def C_TooMany : List Bool := [false, false, false, false, false, false, false, false, false, false, false, false, false, false, false, true, false, false, false, false, false]
def C_Unlike : List Bool := [false, false, false, false, false, false, false, false, false, false, false, false, false, false, true, false, false, false, false, false, false]
def C_ValueError : List Bool := [true, true, true, true, true, true, true, true, true, true, true, true, true, true, true, true, true, true, true, true, true]
def b__law_pot : Ss :=
    (.cons (.asg (.n 2) (.ife (.cmp .lt (.v 1) (.bi .len (.one (.v 0) .nil))) (.idx (.v 0) (.v 1)) (.bin .add (.bin .add (.bin .mod (.bi .int (.one (.bi .sum (.one (.slc (.v 0) .none (.some (.c (.int 1)))) .nil)) .nil)) (.c (.int 1000211))) (.bin .mul (.c (.int 4639)) (.v 1))) (.c (.int 3163)))))
    (.cons (.asg (.n 3) (.bin .mul (.bin .mod (.bi .int (.one (.bi .abs (.one (.v 2) .nil)) .nil)) (.bin .pow (.bin .pow (.c (.int 10)) (.c (.int 60))) (.c (.int 5)))) (.bi .int (.one (.cmp .ge (.bi .abs (.one (.v 2) .nil)) (.bin .pow (.c (.int 10)) (.c (.int 18)))) .nil))))
    (.cons (.asg (.n 4) (.bin .mod (.bi .int (.one (.v 2) .nil)) (.c (.int 2305843009213693951))))
    (.cons (.ret (.some (.lst (.one (.v 3) (.one (.bin .mod (.bi .int (.one (.bin .add (.bin .add (.bin .mul (.v 4) (.c (.int 72161))) (.bin .mul (.bin .mul (.c (.int 10853)) (.v 1)) (.v 1))) (.c (.int 2843))) .nil)) (.c (.int 2305843009213693921))) (.one (.c (.int 0)) .nil))))))
    .nil))))
def d__law_pot : Df := ⟨"_law_pot", top 23, ["script", "place", "cell", "own", "small"], ["script", "place"], [0, 1], b__law_pot⟩
def b__law_take : Ss :=
    (.cons (.ife (.cmp .gt (.idx (.v 0) (.c (.int 0))) (.c (.int 0))) (.cons (.asg (.n 2) (.bin .mod (.bi .int (.one (.idx (.v 0) (.c (.int 0))) .nil)) (.v 1)))
    (.cons (.sub 0 (.c (.int 0)) (.bin .fdiv (.idx (.v 0) (.c (.int 0))) (.v 1)))
    (.cons (.ret (.some (.mv 2)))
    .nil))) .nil)
    (.cons (.sub 0 (.c (.int 2)) (.fz (.bin .add (.idx (.v 0) (.c (.int 2))) (.c (.int 1)))))
    (.cons (.asg (.n 3) (.idx (.fz (.lst (.one (.c (.int 2147483647)) (.one (.c (.int 2147483629)) (.one (.c (.int 2147483587)) (.one (.c (.int 2147483579)) (.one (.c (.int 2147483563)) .nil))))))) (.bin .mod (.bi .int (.one (.idx (.v 0) (.c (.int 2))) .nil)) (.c (.int 5)))))
    (.cons (.asg (.n 4) (.bin .mod (.bi .int (.one (.bin .pow (.bi .int (.one (.bin .add (.bin .add (.idx (.v 0) (.c (.int 1))) (.bin .mul (.bin .mul (.c (.int 95257)) (.idx (.v 0) (.c (.int 2)))) (.idx (.v 0) (.c (.int 2))))) (.c (.int 3163))) .nil)) (.c (.int 3))) .nil)) (.v 3)))
    (.cons (.asg (.n 4) (.bin .mod (.bi .int (.one (.bin .mul (.v 4) (.bin .add (.bin .mod (.bi .int (.one (.v 4) .nil)) (.c (.int 13441))) (.bin .mul (.c (.int 419)) (.idx (.v 0) (.c (.int 2)))))) .nil)) (.c (.int 2305843009213693907))))
    (.cons (.ret (.some (.bin .mod (.bi .int (.one (.bin .fdiv (.v 4) (.c (.int 229))) .nil)) (.v 1))))
    .nil))))))
def d__law_take : Df := ⟨"_law_take", top 24, ["pot", "upto", "digit", "prime", "blend"], ["pot", "upto"], [0, 1], b__law_take⟩
def b__law_of : Ss :=
    (.cons (.ret (.some (.idx (.v 1) (.call F__law_take (.one (.v 0) (.one (.bi .len (.one (.v 1) .nil)) .nil))))))
    .nil)
def d__law_of : Df := ⟨"_law_of", top 25, ["pot", "some"], ["pot", "some"], [0, 1], b__law_of⟩
def b__law_cells : Ss :=
    (.cons (.ret (.some (.lrg (.rg1 (.bi .max (.one (.c (.int 1)) (.one (.bi .min (.one (.v 1) (.one (.bi .len (.one (.v 0) .nil)) .nil))) .nil)))))))
    .nil)
def d__law_cells : Df := ⟨"_law_cells", top 26, ["script", "most"], ["script", "most"], [0, 1], b__law_cells⟩
def b__law_odd : Ss :=
    (.cons (.asg (.n 1) (.lst (.one (.c (.non)) (.one (.c (.bl true)) (.one (.c (.bl false)) (.one (.c (.int 0)) (.one (.c (.int 1)) (.one (.neg (.c (.int 1))) (.one (.c (.int 33)) (.one (.bin .pow (.c (.int 10)) (.c (.int 20))) (.one (.c (.str "")) (.one (.c (.str "pours")) (.one (.c (.str "lot")) (.one (.c (.str "crowd")) (.one (.tup .nil) (.one (.fz (.lst .nil)) (.one (.fz (.dic false)) (.one (.tup (.one (.c (.int 0)) .nil)) (.one (.tup (.one (.tup .nil) .nil)) (.one (.fz (.lst (.one (.c (.int 1)) .nil))) .nil))))))))))))))))))))
    (.cons (.ex (.mu .append 1 (.one (.tup (.one (.c (.int 1)) (.one (.c (.int 0)) .nil))) .nil)))
    (.cons (.asg (.n 1) (.bin .add (.v 1) (.lst (.one (.tup (.one (.c (.int 0)) (.one (.c (.int 1)) .nil))) (.one (.tup (.one (.c (.non)) .nil)) (.one (.fz (.dk [(.str "a", .int 1)])) (.one (.tup (.one (.tup (.one (.c (.int 1)) .nil)) (.one (.tup (.one (.c (.int 2)) .nil)) .nil))) (.one (.tup (.one (.c (.int 2)) (.one (.c (.int 1)) .nil))) (.one (.tup (.one (.c (.int 1)) (.one (.c (.int 1)) (.one (.c (.int 1)) .nil)))) (.one (.tup (.one (.tup (.one (.c (.bl true)) .nil)) .nil)) (.one (.tup (.one (.c (.str "crowd")) (.one (.c (.int 0)) .nil))) (.one (.tup (.one (.c (.int 2)) (.one (.c (.int 1)) (.one (.c (.int 0)) .nil)))) .nil))))))))))))
    (.cons (.ret (.some (.call F__law_of (.one (.v 0) (.one (.v 1) .nil)))))
    .nil))))
def d__law_odd : Df := ⟨"_law_odd", top 27, ["pot", "some"], ["pot"], [0], b__law_odd⟩
def b__law_all_made : Ss :=
    (.cons (.asg (.n 1) (.lst (.one (.fz (.mkx 1 (.v 0))) (.one (.fz (.mkx 2 (.v 0))) (.one (.fz (.mkx 3 (.v 0))) (.one (.fz (.mkx 4 (.v 0))) (.one (.fz (.mkx 5 (.v 0))) (.one (.fz (.mkx 6 (.v 0))) (.one (.fz (.mkx 7 (.v 0))) (.one (.fz (.mkx 8 (.v 0))) (.one (.fz (.mkx 9 (.v 0))) (.one (.fz (.mkx 10 (.v 0))) (.one (.fz (.mkx 11 (.v 0))) (.one (.fz (.mkx 12 (.v 0))) (.one (.fz (.mkx 13 (.v 0))) (.one (.fz (.mkx 14 (.v 0))) (.one (.fz (.mkx 15 (.v 0))) (.one (.fz (.mkx 16 (.v 0))) (.one (.fz (.mkx 17 (.v 0))) (.one (.fz (.mkx 18 (.v 0))) (.one (.fz (.mkx 19 (.v 0))) (.one (.fz (.mkx 20 (.v 0))) .nil))))))))))))))))))))))
    (.cons (.ret (.some (.mv 1)))
    .nil))
def d__law_all_made : Df := ⟨"_law_all_made", top 28, ["value", "found"], ["value"], [0], b__law_all_made⟩
def b__law_lots : Ss :=
    (.cons (.asg (.n 1) (.lst .nil))
    (.cons (.ex (.mu .append 1 (.one (.fz (.lc (.v 2) (.n 2) (.e (.v 0)) (.some (.isx (.v 2) "BadInt" C_BadInt)) [2])) .nil)))
    (.cons (.ex (.mu .append 1 (.one (.fz (.lc (.v 2) (.n 2) (.e (.v 0)) (.some (.isx (.v 2) "BadAction" C_BadAction)) [2])) .nil)))
    (.cons (.ex (.mu .append 1 (.one (.fz (.lc (.v 2) (.n 2) (.e (.v 0)) (.some (.isx (.v 2) "BadTest" C_BadTest)) [2])) .nil)))
    (.cons (.ex (.mu .append 1 (.one (.fz (.lc (.v 2) (.n 2) (.e (.v 0)) (.some (.isx (.v 2) "BadOrder" C_BadOrder)) [2])) .nil)))
    (.cons (.ex (.mu .append 1 (.one (.fz (.lc (.v 2) (.n 2) (.e (.v 0)) (.some (.isx (.v 2) "BadProgram" C_BadProgram)) [2])) .nil)))
    (.cons (.ex (.mu .append 1 (.one (.fz (.lc (.v 2) (.n 2) (.e (.v 0)) (.some (.isx (.v 2) "BadText" C_BadText)) [2])) .nil)))
    (.cons (.ex (.mu .append 1 (.one (.fz (.lc (.v 2) (.n 2) (.e (.v 0)) (.some (.isx (.v 2) "BadInputs" C_BadInputs)) [2])) .nil)))
    (.cons (.ex (.mu .append 1 (.one (.fz (.lc (.v 2) (.n 2) (.e (.v 0)) (.some (.isx (.v 2) "BadWeb" C_BadWeb)) [2])) .nil)))
    (.cons (.ex (.mu .append 1 (.one (.fz (.lc (.v 2) (.n 2) (.e (.v 0)) (.some (.isx (.v 2) "BadNode" C_BadNode)) [2])) .nil)))
    (.cons (.ex (.mu .append 1 (.one (.fz (.lc (.v 2) (.n 2) (.e (.v 0)) (.some (.isx (.v 2) "BadBlock" C_BadBlock)) [2])) .nil)))
    (.cons (.ex (.mu .append 1 (.one (.fz (.lc (.v 2) (.n 2) (.e (.v 0)) (.some (.isx (.v 2) "BadRows" C_BadRows)) [2])) .nil)))
    (.cons (.ex (.mu .append 1 (.one (.fz (.lc (.v 2) (.n 2) (.e (.v 0)) (.some (.isx (.v 2) "BadPlace" C_BadPlace)) [2])) .nil)))
    (.cons (.ex (.mu .append 1 (.one (.fz (.lc (.v 2) (.n 2) (.e (.v 0)) (.some (.isx (.v 2) "BadRegister" C_BadRegister)) [2])) .nil)))
    (.cons (.ex (.mu .append 1 (.one (.fz (.lc (.v 2) (.n 2) (.e (.v 0)) (.some (.isx (.v 2) "Unlike" C_Unlike)) [2])) .nil)))
    (.cons (.ex (.mu .append 1 (.one (.fz (.lc (.v 2) (.n 2) (.e (.v 0)) (.some (.isx (.v 2) "TooMany" C_TooMany)) [2])) .nil)))
    (.cons (.ex (.mu .append 1 (.one (.fz (.lc (.v 2) (.n 2) (.e (.v 0)) (.some (.isx (.v 2) "Full" C_Full)) [2])) .nil)))
    (.cons (.ex (.mu .append 1 (.one (.fz (.lc (.v 2) (.n 2) (.e (.v 0)) (.some (.isx (.v 2) "NothingToUndo" C_NothingToUndo)) [2])) .nil)))
    (.cons (.ex (.mu .append 1 (.one (.fz (.lc (.v 2) (.n 2) (.e (.v 0)) (.some (.isx (.v 2) "NothingToRedo" C_NothingToRedo)) [2])) .nil)))
    (.cons (.ex (.mu .append 1 (.one (.fz (.lc (.v 2) (.n 2) (.e (.v 0)) (.some (.isx (.v 2) "BadJournal" C_BadJournal)) [2])) .nil)))
    (.cons (.ex (.mu .append 1 (.one (.fz (.lc (.v 2) (.n 2) (.e (.v 0)) (.some (.isx (.v 2) "BadLine" C_BadLine)) [2])) .nil)))
    (.cons (.ret (.some (.mv 1)))
    .nil))))))))))))))))))))))
def d__law_lots : Df := ⟨"_law_lots", top 29, ["told", "found", "one"], ["told"], [0], b__law_lots⟩
def b__law_right : Ss :=
    (.cons (.asg (.n 1) (.call F__law_odd (.one (.v 0) .nil)))
    (.cons (.asg (.n 2) (.call F__law_all_made (.one (.v 1) .nil)))
    (.cons (.ife (.nt (.bi .all (.one (.lc (.and_ (.isx (.v 3) "JumpError" C_JumpError) (.isx (.v 3) "ValueError" C_ValueError)) (.n 3) (.e (.v 2)) .none [3]) .nil))) (.cons (.ret (.some (.c (.bl false))))
    .nil) .nil)
    (.cons (.ife (.nt (.bi .all (.one (.lc (.cmp .eq (.rp nms (.vof 21 (.v 3))) (.rp nms (.v 1))) (.n 3) (.e (.v 2)) .none [3]) .nil))) (.cons (.ret (.some (.c (.bl false))))
    .nil) .nil)
    (.cons (.asg (.n 4) (.call F__law_lots (.one (.v 2) .nil)))
    (.cons (.ife (.or_ (.nt (.bi .all (.one (.lc (.cmp .eq (.bi .len (.one (.v 5) .nil)) (.c (.int 1))) (.n 5) (.e (.v 4)) .none [5]) .nil))) (.cmp .ne (.lc (.rp nms (.idx (.v 5) (.c (.int 0)))) (.n 5) (.e (.v 4)) .none [5]) (.lc (.rp nms (.v 3)) (.n 3) (.e (.v 2)) .none [3]))) (.cons (.ret (.some (.c (.bl false))))
    .nil) .nil)
    (.cons (.asg (.n 6) (.mkx 0 (.v 1)))
    (.cons (.ret (.some (.and_ (.isx (.v 6) "ValueError" C_ValueError) (.and_ (.cmp .eq (.rp nms (.vof 21 (.v 6))) (.rp nms (.v 1))) (.cmp .eq (.call F__law_lots (.one (.lst (.one (.v 6) .nil)) .nil)) (.bin .mul (.lst (.one (.fz (.lst .nil)) .nil)) (.bi .len (.one (.v 2) .nil))))))))
    .nil))))))))
def d__law_right : Df := ⟨"_law_right", top 30, ["pot", "value", "told", "one", "lots", "lot", "bare"], ["pot"], [0], b__law_right⟩
def b_law : Ss :=
    (.cons (.ret (.some (.bi .all (.one (.lc (.fz (.call F__law_right (.one (.call F__law_pot (.one (.v 0) (.one (.v 1) .nil))) .nil))) (.n 1) (.e (.call F__law_cells (.one (.v 0) (.one (.c (.int 3)) .nil)))) .none [1]) .nil))))
    .nil)
def d_law : Df := ⟨"law", top 31, ["script", "place"], ["script"], [0], b_law⟩
def ds : List Df := [d__law_pot, d__law_take, d__law_of, d__law_cells, d__law_odd, d__law_all_made, d__law_lots, d__law_right, d_law]
def exc : List Str := ["JumpError", "BadInt", "BadAction", "BadTest", "BadOrder", "BadProgram", "BadText", "BadInputs", "BadWeb", "BadNode", "BadBlock", "BadRows", "BadPlace", "BadRegister", "Unlike", "TooMany", "Full", "NothingToUndo", "NothingToRedo", "BadJournal", "BadLine"]
def sub : List (Str × List Bool) := [("BadAction", C_BadAction), ("BadBlock", C_BadBlock), ("BadInputs", C_BadInputs), ("BadInt", C_BadInt), ("BadJournal", C_BadJournal), ("BadLine", C_BadLine), ("BadNode", C_BadNode), ("BadOrder", C_BadOrder), ("BadPlace", C_BadPlace), ("BadProgram", C_BadProgram), ("BadRegister", C_BadRegister), ("BadRows", C_BadRows), ("BadTest", C_BadTest), ("BadText", C_BadText), ("BadWeb", C_BadWeb), ("Full", C_Full), ("JumpError", C_JumpError), ("NothingToRedo", C_NothingToRedo), ("NothingToUndo", C_NothingToUndo), ("TooMany", C_TooMany), ("Unlike", C_Unlike), ("ValueError", C_ValueError)]
theorem ck : ds.all (chk (giOf ds [] exc nms sub)) = true := by decide +kernel
end K10
set_option Elab.async false
set_option linter.all false
set_option maxRecDepth 100000
set_option maxHeartbeats 0
namespace K10
open PySem EV PySem.Spec PyProof.Rows L2
abbrev PR : Program := PySem.Challenge.pw_nojumpsleft_k10_errors_each_its_own
abbrev RR : PySem.W.OpenRow := PySem.W.OpenLaw.row PySem.Challenge.rw_nojumpsleft_k10_errors_each_its_own
def fn : List He.DefD := ds.map dfD
def fa : List He.Fa := faOf ds exc sub
def exB (K : PySem.W.Frag) : Bool := allB "/claim/cut.py" exc nms sub K
abbrev hk : PySem.W.Hook := hookE 5 fa fn exB
def ob (s : PySem.W.SharedT) : AlE := obsE 5 fa fn exB (HandSHeadRun.getT s)
theorem ob_eq (s : PySem.W.SharedT) : ob s = hk.obs s.abs := obsE_eq (HandSHeadRun.getT_eq s)
def loose : List Str := ["JumpError", "BadInt", "BadAction", "BadTest", "BadOrder", "BadProgram", "BadText", "BadInputs", "BadWeb", "BadNode", "BadBlock", "BadRows", "BadPlace", "BadRegister", "Unlike", "TooMany", "Full", "NothingToUndo", "NothingToRedo", "BadJournal", "BadLine", "_law_pot", "_law_take", "_law_of", "_law_cells", "_law_odd", "_law_all_made", "_law_lots", "_law_right"]
theorem run (w : World) : HandSHeadRun.RunEq RR (PySem.W.view RR.prog [31]) hk ob 40000 loose w := by
  intro os
  kernel_rfl
end K10
set_option Elab.async false
set_option linter.all false
set_option maxRecDepth 100000
set_option maxHeartbeats 0
namespace K10
open PySem EV
abbrev i (n : Int) : T := .im (.int n)
theorem fzl : T.frzs [T.im (D.int 2147483647), T.im (D.int 2147483629), T.im (D.int 2147483587), T.im (D.int 2147483579), T.im (D.int 2147483563)] = [T.im (D.int 2147483647), T.im (D.int 2147483629), T.im (D.int 2147483587), T.im (D.int 2147483579), T.im (D.int 2147483563)] := rfl
theorem take1 (cl : Call) (own small : Int) (h : 0 < own) : tabOf ds 1 cl [.lst true [i own, i small, i 0], i 28] = .ok (i (own % 28)) [some (.lst true [i (own / 28), i small, i 0]), some (i 28)] := by
  show evFn cl 2 5 [0, 1] b__law_take _ = _
  simp [evFn, b__law_take, entry, evSs, evS, thenS, rb, evB, evX, evQ, two, Env.at, idxF, getI, EV.ret, pick, T.clean, coF, Res.bind, truF, biF, boF, asgT, setF, finG, h]
theorem bits_le {x : Int} {k : Nat} (h : x.natAbs < 2 ^ k) : Builtin.Int.intBits x ≤ k := by
  unfold Builtin.Int.intBits
  split
  · exact Nat.zero_le _
  · rename_i hx
    have hx' : x.natAbs ≠ 0 := by simpa using hx
    exact (Nat.log2_lt hx').mpr h
theorem take2 (cl : Call) (own small : Int) (h : ¬ 0 < own) (h1 : 0 ≤ small) (h2 : small < 2305843009213693921) : ∃ d, 0 ≤ d ∧ d < 28 ∧ tabOf ds 1 cl [.lst true [i own, i small, i 0], i 28] = .ok (i d) [some (.lst true [i own, i small, i 1]), some (i 28)] := by
  have e : ∀ {x : Int}, x = small + 95257 + 3163 → (0 : Int) ≤ 3 ∧ (Builtin.Int.intBits x : Int) * 3 ≤ 134217728 := fun {x} hx => by
    have := bits_le (x := x) (k := 62) (by omega)
    omega
  have m : ∀ b : Int, mulOk b (b % 13441 + 419) = true := fun b => by
    unfold mulOk
    have h1 := Int.emod_nonneg b (show (13441 : Int) ≠ 0 by decide)
    have h2 := Int.emod_lt_of_pos b (show (0 : Int) < 13441 by decide)
    simp only [Bool.or_eq_true, Bool.and_eq_true, decide_eq_true_eq]
    right
    omega
  have q1 : ∀ b : Int, 0 ≤ b / 229 % 28 := fun b => Int.emod_nonneg _ (by decide)
  have q2 : ∀ b : Int, b / 229 % 28 < 28 := fun b => Int.emod_lt_of_pos _ (by decide)
  refine ⟨_, q1 ((small + 95257 + 3163) ^ 3 % 2147483629 * ((small + 95257 + 3163) ^ 3 % 2147483629 % 13441 + 419) % 2305843009213693907), q2 _, ?_⟩
  show evFn cl 2 5 [0, 1] b__law_take _ = _
  have e' := (e (x := small + 95257 + 3163) rfl).2
  have m' := m ((small + 95257 + 3163) ^ 3 % 2147483629)
  have c1 : mulOk 95257 1 = true := by decide
  have c2 : mulOk 419 1 = true := by decide
  simp [evFn, b__law_take, entry, evSs, evS, evL, thenS, rb, evB, evX, evQ, two, Env.at, idxF, getI, EV.ret, pick, T.clean, T.frz, coF, Res.bind, truF, biF, boF, asgT, setF, finG, h, quiet, mkTup, T.cleans, c1, c2, e', m', SL, T.frzs, fzl]
/-- the values that are drawn -/
def odds : List T := [.im .non, .im (.bl true), .im (.bl false), i 0, i 1, i (-1), i 33, i 100000000000000000000, .im (.str ""), .im (.str "pours"), .im (.str "lot"), .im (.str "crowd"), .im (.tup []), .lst false [], .dct false false [] [],
  .im (.tup [.int 0]), .im (.tup [.tup []]), .lst false [i 1], .im (.tup [.int 1, .int 0]), .im (.tup [.int 0, .int 1]), .im (.tup [.non]), .dct false false [.str "a"] [i 1], .im (.tup [.tup [.int 1], .tup [.int 2]]), .im (.tup [.int 2, .int 1]),
  .im (.tup [.int 1, .int 1, .int 1]), .im (.tup [.tup [.bl true]]), .im (.tup [.str "crowd", .int 0]), .im (.tup [.int 2, .int 1, .int 0])]
theorem odds_len : odds.length = 28 := rfl
theorem odds_clean : T.cleans odds = true := by decide +kernel
theorem take_ok (cl : Call) (own small : Int) (h1 : 0 ≤ small) (h2 : small < 2305843009213693921) : ∃ d p, 0 ≤ d ∧ d < 28 ∧ tabOf ds 1 cl [.lst true [i own, i small, i 0], i 28] = .ok (i d) [some p, some (i 28)] := by
  by_cases h : 0 < own
  · exact ⟨_, _, Int.emod_nonneg _ (by decide), Int.emod_lt_of_pos _ (by decide), take1 cl own small h⟩
  · obtain ⟨d, q1, q2, q3⟩ := take2 cl own small h h1 h2
    exact ⟨d, _, q1, q2, q3⟩
theorem of_ok {cl : Call} {own small d : Int} {p : T} (h : cl 1 [.lst true [i own, i small, i 0], i 28] = .ok (i d) [some p, some (i 28)]) (h1 : 0 ≤ d) (h2 : d < 28) :
    ∃ y ∈ odds, tabOf ds 2 cl [.lst true [i own, i small, i 0], .lst true odds] = .ok y [some p, some (.lst true odds)] := by
  have hd : d.toNat < odds.length := by rw [odds_len]; omega
  refine ⟨odds[d.toNat], List.getElem_mem hd, ?_⟩
  have hc : T.clean odds[d.toNat] = true := T.cleans_iff.mp odds_clean _ (List.getElem_mem hd)
  show evFn cl 2 2 [0, 1] b__law_of _ = _
  have e1 : odds[d.toNat]? = some odds[d.toNat] := List.getElem?_eq_getElem hd
  simp [evFn, b__law_of, entry, evSs, evS, evL, evA, thenS, rb, evX, evQ, Env.at, idxF, getI, EV.ret, pick, T.clean, Res.bind, biF, finG, goCall, argTs, argT, refs, putBack, odds_len, h, h1, hc, e1]
theorem odd3 (cl : Call) (p : T) : evSs cl b__law_odd [some p, none] = evSs cl (.cons (.ret (.some (.call F__law_of (.one (.v 0) (.one (.v 1) .nil))))) .nil) [some p, some (.lst true odds)] := by kernel_rfl
theorem odd_ok {cl : Call} {own small : Int} {p y : T} (h : cl 2 [.lst true [i own, i small, i 0], .lst true odds] = .ok y [some p, some (.lst true odds)]) : tabOf ds 4 cl [.lst true [i own, i small, i 0]] = .ok y [some p] := by
  show evFn cl 1 2 [0] b__law_odd _ = _
  have e : entry 2 [.lst true [i own, i small, i 0]] = [some (.lst true [i own, i small, i 0]), none] := rfl
  unfold evFn
  rw [e, odd3]
  simp [evSs, evS, evA, thenS, rb, evX, Env.at, T.clean, Res.bind, finG, goCall, argTs, argT, refs, putBack, h]
def rest7 : Ss := match b__law_right with
  | .cons _ r => r
  | _ => .nil
def isT : SRes → Bool
  | .rt (.im (.bl true)) _ => true
  | _ => false
noncomputable abbrev goR (p y : T) : Bool := isT (evSs (callK (tabOf ds) 4) rest7 [some p, some y, none, none, none, none, none])
theorem r_0 (p : T) : goR p (.im .non) = true := by kernel_rfl
theorem r_1 (p : T) : goR p (.im (.bl true)) = true := by kernel_rfl
theorem r_2 (p : T) : goR p (.im (.bl false)) = true := by kernel_rfl
theorem r_3 (p : T) : goR p (i 0) = true := by kernel_rfl
theorem r_4 (p : T) : goR p (i 1) = true := by kernel_rfl
theorem r_5 (p : T) : goR p (i (-1)) = true := by kernel_rfl
theorem r_6 (p : T) : goR p (i 33) = true := by kernel_rfl
theorem r_7 (p : T) : goR p (i 100000000000000000000) = true := by kernel_rfl
theorem r_8 (p : T) : goR p (.im (.str "")) = true := by kernel_rfl
theorem r_9 (p : T) : goR p (.im (.str "pours")) = true := by kernel_rfl
theorem r_10 (p : T) : goR p (.im (.str "lot")) = true := by kernel_rfl
theorem r_11 (p : T) : goR p (.im (.str "crowd")) = true := by kernel_rfl
theorem r_12 (p : T) : goR p (.im (.tup [])) = true := by kernel_rfl
theorem r_13 (p : T) : goR p (.lst false []) = true := by kernel_rfl
theorem r_14 (p : T) : goR p (.dct false false [] []) = true := by kernel_rfl
theorem r_15 (p : T) : goR p (.im (.tup [.int 0])) = true := by kernel_rfl
theorem r_16 (p : T) : goR p (.im (.tup [.tup []])) = true := by kernel_rfl
theorem r_17 (p : T) : goR p (.lst false [i 1]) = true := by kernel_rfl
theorem r_18 (p : T) : goR p (.im (.tup [.int 1, .int 0])) = true := by kernel_rfl
theorem r_19 (p : T) : goR p (.im (.tup [.int 0, .int 1])) = true := by kernel_rfl
theorem r_20 (p : T) : goR p (.im (.tup [.non])) = true := by kernel_rfl
theorem r_21 (p : T) : goR p (.dct false false [.str "a"] [i 1]) = true := by kernel_rfl
theorem r_22 (p : T) : goR p (.im (.tup [.tup [.int 1], .tup [.int 2]])) = true := by kernel_rfl
theorem r_23 (p : T) : goR p (.im (.tup [.int 2, .int 1])) = true := by kernel_rfl
theorem r_24 (p : T) : goR p (.im (.tup [.int 1, .int 1, .int 1])) = true := by kernel_rfl
theorem r_25 (p : T) : goR p (.im (.tup [.tup [.bl true]])) = true := by kernel_rfl
theorem r_26 (p : T) : goR p (.im (.tup [.str "crowd", .int 0])) = true := by kernel_rfl
theorem r_27 (p : T) : goR p (.im (.tup [.int 2, .int 1, .int 0])) = true := by kernel_rfl
theorem right_all (p : T) : ∀ y ∈ odds, goR p y = true := by
  intro y hy
  simp only [odds, List.mem_cons, List.not_mem_nil, or_false] at hy
  rcases hy with rfl | rfl | rfl | rfl | rfl | rfl | rfl | rfl | rfl | rfl | rfl | rfl | rfl | rfl | rfl | rfl | rfl | rfl | rfl | rfl | rfl | rfl | rfl | rfl | rfl | rfl | rfl | rfl
  · exact r_0 p
  · exact r_1 p
  · exact r_2 p
  · exact r_3 p
  · exact r_4 p
  · exact r_5 p
  · exact r_6 p
  · exact r_7 p
  · exact r_8 p
  · exact r_9 p
  · exact r_10 p
  · exact r_11 p
  · exact r_12 p
  · exact r_13 p
  · exact r_14 p
  · exact r_15 p
  · exact r_16 p
  · exact r_17 p
  · exact r_18 p
  · exact r_19 p
  · exact r_20 p
  · exact r_21 p
  · exact r_22 p
  · exact r_23 p
  · exact r_24 p
  · exact r_25 p
  · exact r_26 p
  · exact r_27 p
end K10
set_option Elab.async false
set_option linter.all false
set_option maxRecDepth 100000
set_option maxHeartbeats 0
namespace K10
open PySem EV
theorem right_ok (own small : Int) (h1 : 0 ≤ small) (h2 : small < 2305843009213693921) : ∃ q, callK (tabOf ds) 5 7 [.lst true [i own, i small, i 0]] = .ok (.im (.bl true)) [q] := by
  obtain ⟨d, p, d1, d2, e1⟩ := take_ok (callK (tabOf ds) 1) own small h1 h2
  obtain ⟨y, hy, e2⟩ := of_ok (cl := callK (tabOf ds) 2) e1 d1 d2
  have e3 : callK (tabOf ds) 4 4 [.lst true [i own, i small, i 0]] = .ok y [some p] := odd_ok (cl := callK (tabOf ds) 3) e2
  generalize hcl : callK (tabOf ds) 4 = cl at e3
  have e4 : evSs cl b__law_right [some (.lst true [i own, i small, i 0]), none, none, none, none, none, none] = evSs cl rest7 [some p, some y, none, none, none, none, none] := by
    show thenS (evS cl (.asg (.n 1) (.call F__law_odd (.one (.v 0) .nil))) _) (evSs cl rest7) = _
    simp [evS, evA, thenS, rb, evX, Env.at, T.clean, Res.bind, goCall, argTs, argT, refs, putBack, asgT, e3]
  have e5 := right_all p y hy
  unfold goR at e5
  rw [hcl] at e5
  have e6 : callK (tabOf ds) 5 7 [.lst true [i own, i small, i 0]] = evFn (callK (tabOf ds) 4) 1 7 [0] b__law_right [.lst true [i own, i small, i 0]] := rfl
  rw [e6, hcl]
  have e : entry 7 [.lst true [i own, i small, i 0]] = [some (.lst true [i own, i small, i 0]), none, none, none, none, none, none] := rfl
  unfold evFn
  rw [if_pos (show [T.lst true [i own, i small, i 0]].length = 1 from rfl), e, e4]
  cases hr : evSs cl rest7 [some p, some y, none, none, none, none, none] with
  | rt t τ =>
    rw [hr] at e5
    have ht : t = .im (.bl true) := by
      unfold isT at e5
      split at e5
      · rename_i hh
        cases hh
        rfl
      · cases e5
    rw [ht]
    exact ⟨_, rfl⟩
  | _ => rw [hr] at e5; cases e5
/-! ### pots -/
abbrev is (ns : List Int) : List T := ns.map fun n => i n
theorem is_clean : ∀ ns : List Int, T.cleans (is ns) = true
  | [] => rfl
  | n :: ns => by simp [is, T.cleans, T.clean, is_clean ns]
def n300 : Int := (10 ^ 60) ^ 5
theorem ev300 (cl : Call) (pk : Bool) (τ : EV.Env) : evX cl pk (.bin .pow (.bin .pow (.c (.int 10)) (.c (.int 60))) (.c (.int 5))) τ = .ok (.im (.int n300)) τ := by kernel_rfl
theorem ev18 (cl : Call) (pk : Bool) (τ : EV.Env) : evX cl pk (.bin .pow (.c (.int 10)) (.c (.int 18))) τ = .ok (.im (.int 1000000000000000000)) τ := by kernel_rfl
theorem n300_pos : 0 < n300 := by decide +kernel
theorem exN : ∃ N : Int, 0 < N ∧ ∀ (cl : Call) (pk : Bool) (τ : EV.Env), evX cl pk (.bin .pow (.bin .pow (.c (.int 10)) (.c (.int 60))) (.c (.int 5))) τ = .ok (.im (.int N)) τ := ⟨n300, n300_pos, ev300⟩
theorem exM : ∃ M : Int, ∀ (cl : Call) (pk : Bool) (τ : EV.Env), evX cl pk (.bin .pow (.c (.int 10)) (.c (.int 18))) τ = .ok (.im (.int M)) τ := ⟨_, ev18⟩
section
variable (cl : Call) (ts : List T) (j cell N M a own small : Int)
theorem p1 (h0 : 0 ≤ j) (hj : j < (ts.length : Int)) (h1 : ts[j.toNat]? = some (i cell)) : evS cl (.asg (.n 2) (.ife (.cmp .lt (.v 1) (.bi .len (.one (.v 0) .nil))) (.idx (.v 0) (.v 1)) (.bin .add (.bin .add (.bin .mod (.bi .int (.one (.bi .sum (.one (.slc (.v 0) .none (.some (.c (.int 1)))) .nil)) .nil)) (.c (.int 1000211))) (.bin .mul (.c (.int 4639)) (.v 1))) (.c (.int 3163))))) [some (.lst false ts), some (i j), none, none, none] = .nx [some (.lst false ts), some (i j), some (i cell), none, none] := by
  have hl : j.toNat < ts.length := by omega
  have h2 : ts[j.toNat] = i cell := by
    rw [List.getElem?_eq_getElem hl] at h1
    exact Option.some.inj h1
  simp [h2, evSs, evS, evL, thenS, rb, evX, evQ, two, Env.at, idxF, getI, EV.ret, pick, T.clean, T.frz, coF, Res.bind, truF, biF, boF, asgT, finG, SL, *]
theorem p2 (hN : 0 < N) (eN : ∀ (cl : Call) (pk : Bool) (τ : EV.Env), evX cl pk (.bin .pow (.bin .pow (.c (.int 10)) (.c (.int 60))) (.c (.int 5))) τ = .ok (.im (.int N)) τ) (eM : ∀ (cl : Call) (pk : Bool) (τ : EV.Env), evX cl pk (.bin .pow (.c (.int 10)) (.c (.int 18))) τ = .ok (.im (.int M)) τ) (ha : (if cell < 0 then -cell else cell) = a) (mb : ∀ (a : Int) (b : Bool), mulOk a (b2i b) = true) : evS cl (.asg (.n 3) (.bin .mul (.bin .mod (.bi .int (.one (.bi .abs (.one (.v 2) .nil)) .nil)) (.bin .pow (.bin .pow (.c (.int 10)) (.c (.int 60))) (.c (.int 5)))) (.bi .int (.one (.cmp .ge (.bi .abs (.one (.v 2) .nil)) (.bin .pow (.c (.int 10)) (.c (.int 18)))) .nil)))) [some (.lst false ts), some (i j), some (i cell), none, none] = .nx [some (.lst false ts), some (i j), some (i cell), some (i (a % N * b2i (decide (M ≤ a)))), none] := by
  simp [↓eN, ↓eM, evSs, evS, evL, thenS, rb, evX, evQ, two, Env.at, idxF, getI, EV.ret, pick, T.clean, T.frz, coF, Res.bind, truF, biF, boF, asgT, finG, SL, *]
theorem p3 : evS cl (.asg (.n 4) (.bin .mod (.bi .int (.one (.v 2) .nil)) (.c (.int 2305843009213693951)))) [some (.lst false ts), some (i j), some (i cell), some (i own), none] = .nx [some (.lst false ts), some (i j), some (i cell), some (i own), some (i (cell % 2305843009213693951))] := by
  simp [evSs, evS, evL, thenS, rb, evX, evQ, two, Env.at, idxF, getI, EV.ret, pick, T.clean, T.frz, coF, Res.bind, truF, biF, boF, asgT, finG, SL, *]
theorem p4 (m1 : ∀ a : Int, mulOk a 72161 = true) (m2 : mulOk 10853 j = true) (m3 : mulOk (10853 * j) j = true) : evS cl (.ret (.some (.lst (.one (.v 3) (.one (.bin .mod (.bi .int (.one (.bin .add (.bin .add (.bin .mul (.v 4) (.c (.int 72161))) (.bin .mul (.bin .mul (.c (.int 10853)) (.v 1)) (.v 1))) (.c (.int 2843))) .nil)) (.c (.int 2305843009213693921))) (.one (.c (.int 0)) .nil)))))) [some (.lst false ts), some (i j), some (i cell), some (i own), some (i small)] = .rt (.lst true [i own, i ((small * 72161 + 10853 * j * j + 2843) % 2305843009213693921), i 0]) [some (.lst false ts), some (i j), some (i cell), some (i own), some (i small)] := by
  simp [evSs, evS, evL, thenS, rb, evX, evQ, two, Env.at, idxF, getI, EV.ret, pick, T.clean, T.frz, coF, Res.bind, truF, biF, boF, asgT, finG, SL, *]
theorem pot_ok (h0 : 0 ≤ j) (h3 : j < 3) (hj : j < (ts.length : Int)) (h1 : ts[j.toNat]? = some (i cell)) : ∃ own small, 0 ≤ small ∧ small < 2305843009213693921 ∧ tabOf ds 0 cl [.lst false ts, i j] = .ok (.lst true [i own, i small, i 0]) [some (.lst false ts), some (i j)] := by
  have mb : ∀ (a : Int) (b : Bool), mulOk a (b2i b) = true := fun a b => by unfold mulOk; cases b <;> simp [b2i]
  have m1 : ∀ a : Int, mulOk a 72161 = true := fun a => by simp [mulOk]
  have m2 : mulOk 10853 j = true := by simp [mulOk]
  have m3 : mulOk (10853 * j) j = true := by
    unfold mulOk
    simp only [Bool.or_eq_true, Bool.and_eq_true, decide_eq_true_eq]
    right
    omega
  obtain ⟨N, hN, eN⟩ := exN
  obtain ⟨M, eM⟩ := exM
  obtain ⟨a, ha⟩ : ∃ a, (if cell < 0 then -cell else cell) = a := ⟨_, rfl⟩
  refine ⟨a % N * b2i (decide (M ≤ a)), _, Int.emod_nonneg (cell % 2305843009213693951 * 72161 + 10853 * j * j + 2843) (show (2305843009213693921 : Int) ≠ 0 by decide), Int.emod_lt_of_pos _ (by decide), ?_⟩
  · have hz : tabOf ds 0 cl [.lst false ts, i j] = evFn cl 2 5 [0, 1] b__law_pot [.lst false ts, i j] := rfl
    have e : entry 5 [.lst false ts, i j] = [some (.lst false ts), some (i j), none, none, none] := rfl
    rw [hz]
    unfold evFn
    rw [if_pos (show [T.lst false ts, i j].length = 2 from rfl), e]
    unfold b__law_pot
    rw [evSs, p1 cl ts j cell h0 hj h1]
    simp only [thenS]
    rw [evSs, p2 cl ts j cell N M a hN eN eM ha mb]
    simp only [thenS]
    rw [evSs, p3 cl ts j cell]
    simp only [thenS]
    rw [evSs, p4 cl ts j cell _ _ m1 m2 m3]
    rfl
end
/-- the pot of the only cell of an empty script -/
theorem pot_0 (cl : Call) : tabOf ds 0 cl [.lst false [], i 0] = .ok (.lst true [i 0, i ((3163 * 72161 + 2843) % 2305843009213693921), i 0]) [some (.lst false []), some (i 0)] := by kernel_rfl
theorem cells_0 (cl : Call) : tabOf ds 3 cl [.lst false [], i 3] = .ok (.lst true (rng 0 1)) [some (.lst false []), some (i 3)] := by kernel_rfl
theorem cells_1 (cl : Call) (a : T) : tabOf ds 3 cl [.lst false [a], i 3] = .ok (.lst true (rng 0 1)) [some (.lst false [a]), some (i 3)] := by kernel_rfl
theorem cells_2 (cl : Call) (a b : T) : tabOf ds 3 cl [.lst false [a, b], i 3] = .ok (.lst true (rng 0 2)) [some (.lst false [a, b]), some (i 3)] := by kernel_rfl
theorem cells_3 (cl : Call) (a b c : T) (r : List T) : tabOf ds 3 cl [.lst false (a :: b :: c :: r), i 3] = .ok (.lst true (rng 0 3)) [some (.lst false (a :: b :: c :: r)), some (i 3)] := by
  have hz : tabOf ds 3 cl [.lst false (a :: b :: c :: r), i 3] = evFn cl 2 2 [0, 1] b__law_cells [.lst false (a :: b :: c :: r), i 3] := rfl
  rw [hz]
  have h2 : ¬ ((r.length : Int) + 1 + 1 + 1 < 3) := by omega
  simp [evFn, b__law_cells, entry, evSs, evS, thenS, rb, evX, evQ, evI, Env.at, EV.ret, Res.bind, biF, finG, h2, intOf, inR, rng, List.range_succ, SL, pick]
theorem law_ok (cl : Call) (ts : List T) (c : T.cleans ts = true) (m : Nat) (hm : m ≤ 3) {p : Option T} (h1 : cl 3 [.lst false ts, i 3] = .ok (.lst true (rng 0 m)) [p, some (i 3)])
    (h2 : ∀ j : Nat, j < m → ∃ pot q, cl 0 [.lst false ts, i j] = .ok pot [some (.lst false ts), some (i j)] ∧ cl 7 [pot] = .ok (.im (.bl true)) [q]) : ∃ ps, tabOf ds 8 cl [.lst false ts] = .ok (.im (.bl true)) ps := by
  have hz : tabOf ds 8 cl [.lst false ts] = evFn cl 1 2 [0] b_law [.lst false ts] := rfl
  rw [hz]
  match m, hm with
  | 0, _ =>
    refine ⟨[some (.lst false ts)], ?_⟩
    simp [evFn, b_law, entry, evSs, evS, thenS, rb, evX, evQ, evI, evA, evT, Env.at, EV.ret, Res.bind, biF, finG, goCall, argTs, argT, refs, putBack, T.clean, T.frz, T.frzs, c, h1, rng, seqF, lcGo, wip, unwip, noExc, boolsOf, asgT]
  | 1, _ =>
    obtain ⟨p0, q0, a0, b0⟩ := h2 0 (by omega)
    replace a0 : cl F__law_pot [.lst false ts, .im (.int 0)] = .ok p0 [some (.lst false ts), some (.im (.int 0))] := a0
    replace b0 : cl F__law_right [p0] = .ok (.im (.bl true)) [q0] := b0
    refine ⟨[some (.lst false ts)], ?_⟩
    simp [evFn, b_law, entry, evSs, evS, thenS, rb, evX, evQ, evI, evA, evT, Env.at, EV.ret, Res.bind, biF, finG, goCall, argTs, argT, refs, putBack, T.clean, T.frz, T.frzs, c, h1, rng, seqF, lcGo, wip, unwip, noExc, boolsOf, asgT, a0, b0, SL, List.range_succ]
  | 2, _ =>
    obtain ⟨p0, q0, a0, b0⟩ := h2 0 (by omega)
    replace a0 : cl F__law_pot [.lst false ts, .im (.int 0)] = .ok p0 [some (.lst false ts), some (.im (.int 0))] := a0
    replace b0 : cl F__law_right [p0] = .ok (.im (.bl true)) [q0] := b0
    obtain ⟨p1, q1, a1, b1⟩ := h2 1 (by omega)
    replace a1 : cl F__law_pot [.lst false ts, .im (.int 1)] = .ok p1 [some (.lst false ts), some (.im (.int 1))] := a1
    replace b1 : cl F__law_right [p1] = .ok (.im (.bl true)) [q1] := b1
    refine ⟨[some (.lst false ts)], ?_⟩
    simp [evFn, b_law, entry, evSs, evS, thenS, rb, evX, evQ, evI, evA, evT, Env.at, EV.ret, Res.bind, biF, finG, goCall, argTs, argT, refs, putBack, T.clean, T.frz, T.frzs, c, h1, rng, seqF, lcGo, wip, unwip, noExc, boolsOf, asgT, a0, b0, a1, b1, SL, List.range_succ]
  | 3, _ =>
    obtain ⟨p0, q0, a0, b0⟩ := h2 0 (by omega)
    replace a0 : cl F__law_pot [.lst false ts, .im (.int 0)] = .ok p0 [some (.lst false ts), some (.im (.int 0))] := a0
    replace b0 : cl F__law_right [p0] = .ok (.im (.bl true)) [q0] := b0
    obtain ⟨p1, q1, a1, b1⟩ := h2 1 (by omega)
    replace a1 : cl F__law_pot [.lst false ts, .im (.int 1)] = .ok p1 [some (.lst false ts), some (.im (.int 1))] := a1
    replace b1 : cl F__law_right [p1] = .ok (.im (.bl true)) [q1] := b1
    obtain ⟨p2, q2, a2, b2⟩ := h2 2 (by omega)
    replace a2 : cl F__law_pot [.lst false ts, .im (.int 2)] = .ok p2 [some (.lst false ts), some (.im (.int 2))] := a2
    replace b2 : cl F__law_right [p2] = .ok (.im (.bl true)) [q2] := b2
    refine ⟨[some (.lst false ts)], ?_⟩
    simp [evFn, b_law, entry, evSs, evS, thenS, rb, evX, evQ, evI, evA, evT, Env.at, EV.ret, Res.bind, biF, finG, goCall, argTs, argT, refs, putBack, T.clean, T.frz, T.frzs, c, h1, rng, seqF, lcGo, wip, unwip, noExc, boolsOf, asgT, a0, b0, a1, b1, a2, b2, SL, List.range_succ]
theorem pots_ok {ts : List T} {m : Nat} (hm : m ≤ 3) (hl : m ≤ ts.length) (hi : ∀ j : Nat, j < m → ∃ cell, ts[j]? = some (i cell)) : ∀ j : Nat, j < m → ∃ pot q, callK (tabOf ds) 5 0 [.lst false ts, i j] = .ok pot [some (.lst false ts), some (i j)] ∧ callK (tabOf ds) 5 7 [pot] = .ok (.im (.bl true)) [q] := by
  intro j hj
  obtain ⟨cell, hc⟩ := hi j hj
  obtain ⟨own, small, h1, h2, h3⟩ := pot_ok (callK (tabOf ds) 4) ts (j : Int) cell (by omega) (by omega) (by omega) (by simpa using hc)
  obtain ⟨q, h4⟩ := right_ok own small h1 h2
  exact ⟨_, q, h3, h4⟩
theorem c53 : callK (tabOf ds) 5 3 = tabOf ds 3 (callK (tabOf ds) 4) := rfl
theorem plain (ns : List Int) : ∃ ps, callK (tabOf ds) 6 8 [.lst false (ns.map fun i => .im (.int i))] = .ok (.im (.bl true)) ps := by
  have key : ∀ (ts : List T) (m : Nat) (p : Option T), T.cleans ts = true → m ≤ 3 → callK (tabOf ds) 5 3 [.lst false ts, i 3] = .ok (.lst true (rng 0 m)) [p, some (i 3)] →
      (∀ j : Nat, j < m → ∃ pot q, callK (tabOf ds) 5 0 [.lst false ts, i j] = .ok pot [some (.lst false ts), some (i j)] ∧ callK (tabOf ds) 5 7 [pot] = .ok (.im (.bl true)) [q]) → ∃ ps, callK (tabOf ds) 6 8 [.lst false ts] = .ok (.im (.bl true)) ps :=
    fun ts m p c hm h1 h2 => law_ok (callK (tabOf ds) 5) ts c m hm h1 h2
  have hc : T.cleans (ns.map fun i => T.im (.int i)) = true := by
    have := T.cleans_im (ns.map D.int)
    rw [List.map_map] at this
    exact this
  match ns, hc with
  | [], hc =>
    refine key [] 1 _ hc (by omega) (cells_0 (callK (tabOf ds) 4)) fun j hj => ?_
    obtain rfl : j = 0 := by omega
    obtain ⟨q, h4⟩ := right_ok 0 ((3163 * 72161 + 2843) % 2305843009213693921) (Int.emod_nonneg _ (by decide)) (Int.emod_lt_of_pos _ (by decide))
    exact ⟨_, q, pot_0 (callK (tabOf ds) 4), h4⟩
  | [a], hc =>
    refine key [i a] 1 (some (.lst false [i a])) hc (by omega) (by rw [c53]; exact cells_1 _ _) (pots_ok (by omega) (by simp) fun j hj => ?_)
    obtain rfl : j = 0 := by omega
    exact ⟨a, rfl⟩
  | [a, b], hc =>
    refine key [i a, i b] 2 (some (.lst false [i a, i b])) hc (by omega) (by rw [c53]; exact cells_2 _ _ _) (pots_ok (by omega) (by simp) fun j hj => ?_)
    match j, hj with
    | 0, _ => exact ⟨a, rfl⟩
    | 1, _ => exact ⟨b, rfl⟩
  | a :: b :: c :: r, hc =>
    refine key (i a :: i b :: i c :: r.map fun n => i n) 3 (some (.lst false (i a :: i b :: i c :: r.map fun n => i n))) hc (by omega) (by rw [c53]; exact cells_3 _ _ _ _ _) (pots_ok (by omega) (by simp) fun j hj => ?_)
    match j, hj with
    | 0, _ => exact ⟨a, rfl⟩
    | 1, _ => exact ⟨b, rfl⟩
    | 2, _ => exact ⟨c, rfl⟩
end K10
set_option Elab.async false
set_option linter.all false
set_option maxRecDepth 100000
set_option maxHeartbeats 0
namespace K10
open PySem EV PySem.Spec PyProof.Rows L2
theorem binds : ∀ d ∈ ds, ∀ (kV doc pm : Value) (an : Option Addr) (cdv ct : Value) (us : List Value), us.length = d.ps.length → bindArgs (PySem.W.fnOf d.nm d.nm (defArgs d.st) (defBody d.st) (defScope d.st) .none kV doc pm an cdv ct) ⟨us, []⟩ = pure (d.ps.zip us) := by
  intro d hd kV doc pm an cdv ct us hl
  simp only [ds, List.mem_cons, List.not_mem_nil, or_false] at hd
  rcases hd with rfl | rfl | rfl | rfl | rfl | rfl | rfl | rfl | rfl
  all_goals first
    | exact (match us, hl with | [_], _ => rfl)
    | exact (match us, hl with | [_, _], _ => rfl)
theorem law_sp {K : PySem.W.Frag} {ca : Nat → Addr} {H : Hp} {a : Addr} {ns : List Int} (hl : ns.length ≤ 63) (hz : FzL K H a (ns.map V.int)) : spEV K ca (callK (tabOf ds) 6 8) 1 [.ref a] H (fun v _ => v = .bl true) fun _ _ _ => False := by
  obtain ⟨ps, e⟩ := plain ns
  refine ⟨rfl, [.lst false (ns.map fun i => .im (.int i))], [], rfl, by simpa using script_sp hz, ?_⟩
  rw [e]
  intro v H' sp
  exact sp.peek1.bl
end K10
open PySem PySem.W PySem.Calls PyProof.Rows
theorem PySem.Challenge.cw_nojumpsleft_k10_errors_each_its_own_holds : PySem.Challenge.rw_nojumpsleft_k10_errors_each_its_own.Holds := by
  w_on; o_law
  refine HandSHeadRun.head_any (r := OpenLaw.row PySem.Challenge.rw_nojumpsleft_k10_errors_each_its_own) (q := view (OpenLaw.row PySem.Challenge.rw_nojumpsleft_k10_errors_each_its_own).prog [31]) (H := K10.hk) (ob := K10.ob) (M := 40000) (loose := K10.loose) (d := HandSHeadRun.topDef (OpenLaw.row PySem.Challenge.rw_nojumpsleft_k10_errors_each_its_own).prog 31) (kwd := []) K10.ob_eq
    (by kernel_rfl) (fun s => by kernel_rfl) K10.run (by kernel_rfl) (by kernel_rfl) (by kernel_rfl) (by rfl) (by first | assumption | decide +kernel) (by decide +kernel) ⟨rfl, rfl, rfl, rfl, rfl, by decide +kernel⟩ ?hw ?hc
  case hw => w_witness2
  case hc =>
    refine EV.walk_ofG (l := PySem.Challenge.rw_nojumpsleft_k10_errors_each_its_own) (n := 63) (k := 6) (x := "script") rfl (by decide) (by kernel_rfl) ⟨rfl, by decide, by decide⟩ ?F
    intro w mg fa h Y G hmg0
    obtain ⟨K, KX, c, hx⟩ := Y
    have hmg : mg ("law" : PySem.Str) = some (.ref fa) := by
      have e : (HandSHeadRun.topDef (OpenLaw.row PySem.Challenge.rw_nojumpsleft_k10_errors_each_its_own).prog 31).name = ("law" : PySem.Str) := by kernel_rfl
      rw [← e]
      exact hmg0
    obtain ⟨f, fd, hf, hb, hF⟩ := EV.head_ok (P := (PySem.Challenge.rw_nojumpsleft_k10_errors_each_its_own).prog) (w := w) KX G c hx rfl rfl K10.binds K10.ck 6 8 (d := K10.d_law) rfl
    have e : f = fa := by
      have z := hf.symm.trans hmg
      cases z
      rfl
    subst e
    exact ⟨K, fd, EV.spEV K (EV.caOf K10.exc K) (EV.callK (EV.tabOf K10.ds) 6 8) 1, KX, fun s u => hb s [u] rfl, fun H a ns hl _ hz => K10.law_sp hl hz, fun base _ _ => hF base⟩
