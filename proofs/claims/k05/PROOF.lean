import PyProof.Rows.All
import Wide.All
import OpenK.AllK
import Wide.FinOn
import KE.KExcSuper
import HandS.ForExc
import HandS.ExcInit
import HandS.Nested
import HandS.ForMost
import HandS.HeadHook2
import HandS.Wide
import HandS.Style
import HandS.IsInst
import HandS.Gcd
import HandS.ExcField
import HandS.ExcIs
import HandS.Comp
import HandS.Defaults
import HandS.Head0
import HandS.Head1
import HandS.Head2
import HandS.Head3
import HandS.HeadHook1
import HandS.HeadEnd
import PySem.Challenge.RW_pathsandchances_k05_parts_reckoned_exact
set_option Elab.async false
set_option linter.all false
set_option maxRecDepth 100000
set_option maxHeartbeats 400000
/-! zero-argument super() in an __init__: of an own exception, of an own class. -/
namespace PV
open PySem PySem.Spec PyProof.Rows L2 NdefX

/-- a block at the activation of the body fb -/
structure PSsA (X : Cx) (fb st : List Stmt) (t : TS) : Prop where
  run : ∀ (pins : List (Addr × Obj)) (s : Shared) (σ : L2.St) (H : Hp) (D : Ends), Inv X pins σ H s → t D σ H → PySem.wpAt (model X.prog X.w) X.A (.func fb X.env) (execs st X.env) (SP X pins D) X.xe s
section
variable {X : Cx} {fb rest : List Stmt} {st : Stmt} {t u : TS}
theorem psa_of {sts : List Stmt} (h : PSs X sts t) : PSsA X fb sts t := ⟨fun pins s σ H D I q => PySem.wpAt_of_wpAny (h.run pins s σ H D I q)⟩
theorem PSsA.cast {l l' : List Stmt} (e : l = l') (h : PSsA X fb l t) : PSsA X fb l' t := e ▸ h
theorem psa_cons (h1 : PS X st t) (h2 : PSsA X fb rest u) : PSsA X fb (st :: rest) (tSeq t u) := by
  refine ⟨fun pins s σ H D I q => ?_⟩
  refine PySem.ks_wpAt_execs_cons (PySem.ks_wpAt_mono (PySem.wpAt_of_wpAny (h1.run pins s σ H { D with nx := u D } I q)) (fun f s' hf => ?_) fun _ _ z => z)
  cases f with
  | next =>
    obtain ⟨σ', H', J, q'⟩ := hf
    exact h2.run pins s' σ' H' D J q'
  | brk => exact hf
  | cont => exact hf
  | ret u => exact hf
end

/-- what the written part says of the def at f that closes over its class's cell -/
structure SupF (P : Program) (K : PySem.W.Frag) (f : Addr) (F : NF) (fd : FuncData) (D : Addr) : Prop where
  lk : ∃ oc od osl doc pm ctv, fd = F.fd doc pm ctv ∧ K.lookup f = some (⟨oc, od, .func fd, osl⟩ : Obj)
  hcd : PySem.W.codeIn K (.ref F.c) F.qual = true
  code : ∃ ccl cdd vs ccs file tf, K.lookup F.c = some (⟨ccl, cdd, .fields vs, ccs⟩ : Obj) ∧ vs[2]? = some (.str file tf) ∧ ((P.main.file : Str) == file) = true
  cell : ∃ cc cl cld csl, F.cl = [(("__class__" : Str), cc)] ∧ K.lookup cc = some (⟨cl, cld, .cell (some (.ref D)), csl⟩ : Obj)
  cls : ∃ cdD, PySem.W.clsIn K D = some cdD
  kp : PySem.W.keepIn K (.ref f) = true
  top : (P.main.scope.names.lookup ("super" : Str)).isSome = false

section
variable {CX : CXT} {P : Program} {w : World} {K : PySem.W.Frag} {mg : Str → Option Value} {base : Heap} {N ps : List Str} {F : NF} {f D : Addr} {k : Nat} {sp : Sp} {fd : FuncData}
/-- a def that closes over __class__, by its body at its activation -/
theorem fnS_of (G : SupF P K f F fd D) (S : NScope N ps [("__class__" : Str)] F.scope) (len : ∀ vs H Q E, sp vs H Q E → vs.length = ps.length)
    (hbody : ∀ (A : Around) (outer : List Env) (s : Shared) (H : Hp) (vs : List V) (Q : VK) (E : XK), Room k (A.deeper (envF F f s.heap.objs.size)) → sp vs H Q E →
      ∃ t, PSsA (ncx CX P w K mg base N F f A outer s H E) F.body F.body t ∧ t { nx := fun _ H' => Q .non H', rt := Q } (startF N vs [some (.ref D)]) H) :
    FnOk P w K mg base CX (k + 1) f fd ps sp := by
  obtain ⟨oc, od, osl, doc, pm, ctv, rfl, lk⟩ := G.lk
  obtain ⟨cc, cl, cld, csl, hcl, lcc⟩ := G.cell
  refine ⟨len, fun A outer s H args us vs Q E hr e0 hb r hsp => ?_⟩
  have hl := len _ _ _ _ hsp
  have KX : K.In s.heap := e0.mod.kin.keeps fun b o e => (e0.bs b o e).1
  have lim : s.heap.NoLimit := e0.mod.nolimit.keeps fun b o e => (e0.bs b o e).1
  have C : CellsAt F.cl [("__class__" : Str)] [some (.ref D)] s.heap H := by
    have hc := KX _ _ lcc
    have hn : H cc = none := by
      have hb : base.get? cc = some _ := e0.mod.kin _ _ lcc
      exact (e0.bs _ _ hb).2
    refine ⟨rfl, fun y c e => ?_, fun x y c e1 e2 => ?_, fun i y e => ?_⟩
    · rw [hcl] at e
      by_cases hy : y = ("__class__" : Str)
      · subst hy
        have : c = cc := by simpa [List.lookup] using e.symm
        subst this
        exact ⟨hn, _, _, hc, rfl⟩
      · have : (y == ("__class__" : Str)) = false := by simpa using hy
        simp [List.lookup, this] at e
    · rw [hcl] at e1 e2
      have h1 : x = ("__class__" : Str) := by
        by_cases hy : x = ("__class__" : Str)
        · exact hy
        · have : (x == ("__class__" : Str)) = false := by simpa using hy
          simp [List.lookup, this] at e1
      have h2 : y = ("__class__" : Str) := by
        by_cases hy : y = ("__class__" : Str)
        · exact hy
        · have : (y == ("__class__" : Str)) = false := by simpa using hy
          simp [List.lookup, this] at e2
      rw [h1, h2]
    · cases i with
      | succ i => simp at e
      | zero =>
        have hy : ("__class__" : Str) = y := by simpa using e
        subst hy
        refine ⟨cc, by rw [hcl]; simp [List.lookup], fun v hv => ?_⟩
        have hv' : V.ref D = v := by simpa using hv
        subst hv'
        exact ⟨.ref D, rfl, _, hc, rfl⟩
  refine codeAny_call_function hr.depth (KX _ _ lk) rfl S.co S.gen rfl (PySem.W.codeRec_of KX G.hcd) (hb _ _ _ _ ?_)
  refine wpAny_newFunctionEnv S.nocell (fun ⟨n, _⟩ hy => S.par n (List.of_mem_zip hy).1) (fun h₁ hns hsb => ⟨lim.fresh _ hsb, ?_⟩) S.kind
  show codeAny _ _ (.func F.body (envF F f s.heap.objs.size)) _ _
  refine PySem.ks_codeAny_funcAt ?_
  have kp : ∀ b o, s.heap.get? b = some o → h₁.get? b = some o := fun b o e => hsb.extBut b o (Nat.ne_of_lt (Heap.lt_size e)) (Heap.get?_push_of_some _ e)
  obtain ⟨t, ht, hq⟩ := hbody A outer s H vs Q E (hr.deeper _) hsp
  have I : Inv (ncx CX P w K mg base N F f A outer s H E) [] (startF N vs [some (.ref D)]) H { s with heap := h₁, toks := s.toks + (ps.zip us).length } := inv_startN S hr.hd e0 hl r C hns kp
  refine PySem.ks_wpAt_mono (ht.run [] _ (startF N vs [some (.ref D)]) H _ I hq) (fun fl s' hs => ?_) fun e s' hs => hs
  have fin : ∀ {σ' : L2.St} {H' : Hp} {v : V} {u : Value}, Inv (ncx CX P w K mg base N F f A outer s H E) [] σ' H' s' → L2.RelV v u → Q v H' → CE outer P w H s Q u s' :=
    fun {σ' H' v u} J rv q => ⟨v, H', J.os, J.bare, J.base, J.hok, rv, q⟩
  cases fl with
  | ret u =>
    obtain ⟨v, σ', H', J, rv, q⟩ := hs
    exact fin J rv q
  | next =>
    obtain ⟨σ', H', J, q⟩ := hs
    exact fin (v := V.non) (u := Value.none) J rfl q
  | brk =>
    obtain ⟨_, _, _, q⟩ := hs
    exact False.elim q
  | cont =>
    obtain ⟨_, _, _, q⟩ := hs
    exact False.elim q
end

/-! ### super().__init__(..) of an own exception over ValueError -/
/-- a new object that is not told -/
theorem Inv_push {X : Cx} {pins : List (Addr × Obj)} {σ : L2.St} {H : Hp} {hp : Heap} {g : Array GenState} {d : Drawn} {t t' : Nat} {os : OsState} {h' : Heap} (I : Inv X pins σ H ⟨hp, g, d, t, os⟩) (k : ∀ b u, hp.get? b = some u → h'.get? b = some u) :
    Inv X pins σ H ⟨h', g, d, t', os⟩ := I.kept (t' := t') k

def tSupE (K : PySem.W.Frag) (D : Addr) (ta : TA) : TS := fun Dn σ H => ∃ a C : Addr, σ[0]? = some (some (.ref a)) ∧ H a = some (exo a C none) ∧ OexC K C ∧ PySem.W.mroIn K C (.ref D) = some true ∧
  PySem.W.ks_superIn K C D "__init__" = some (some (.builtin "ValueError.__init__")) ∧ PySem.W.subIn K (.ref C) (.type "ValueError") = some true ∧
  ta σ H fun vs H1 => vs.length ≤ 1000 ∧ H1 a = some (exo a C none) ∧ Dn.nx σ H1

/-- what the scope of such an __init__ says -/
structure SupS (N : List Str) (F : NF) (mg : Str → Option Value) (K : PySem.W.Frag) : Prop where
  self : ∃ ar : Arg, (F.params.posonlyargs ++ F.params.args).head? = some ar ∧ N[0]? = some ar.arg ∧ F.scope.names.lookup ar.arg = some .local
  gS : F.scope.names.lookup ("super" : Str) = some .globalImplicit
  mS : mg ("super" : Str) = none
  tp : PySem.W.nsIn K cStatics "thirdparty.any" = some none

section
variable {CX : CXT} {P : Program} {w : World} {K : PySem.W.Frag} {mg : Str → Option Value} {base : Heap} {N ps : List Str} {F : NF} {f D : Addr} {A : Around} {outer : List Env} {s0 : Shared} {H0 : Hp} {E : XK} {fd : FuncData}
/-- super() at the activation: the super object -/
theorem super_obj {X : Cx} (hX : X = ncx CX P w K mg base N F f A outer s0 H0 E) (G : SupF P K f F fd D) (S : NScope N ps [("__class__" : Str)] F.scope) (U : SupS N F mg K) {pins : List (Addr × Obj)} {σ : L2.St} {H : Hp} {s : Shared} {a C : Addr} {ox : Obj} {odx : Option Obj} {p0 p1 : Pos} {whole : Sem Value} {Q : Value → Shared → Prop}
    (I : Inv X pins σ H s) (hσ : σ[0]? = some (some (.ref a))) (IA : PySem.W.InstAt s.heap a ox C odx) (hm : PySem.W.mroIn K C (.ref D) = some true)
    (h : ∀ so h', h'.get? so = some (PySem.W.ks_superObj D a C) → (∀ y o, s.heap.get? y = some o → h'.get? y = some o) → so = s.heap.objs.size → Q (.ref so) { s with heap := h' }) :
    PySem.wpAt (model X.prog X.w) X.A (.func F.body X.env) (attributeBase (.Call (.Name "super" p0) [] [] p1) "__init__" X.env whole) Q X.xe s := by
  subst hX
  obtain ⟨oc, od, osl, doc, pm, ctv, rfl, lk⟩ := G.lk
  obtain ⟨ccl, cdd, vs, ccs, file, tf, lcode, hvs, hfile⟩ := G.code
  obtain ⟨cc, cl, cld, csl, hcl, lcc⟩ := G.cell
  obtain ⟨cdD, hD⟩ := G.cls
  obtain ⟨ar, hp, hN0, hka⟩ := U.self
  have KX : K.In s.heap := I.kIn
  obtain ⟨m, hn, hl⟩ := id I.loc
  obtain ⟨u, ru, lu⟩ := hl 0 ar.arg (.ref a) hN0 hσ (.inl hka)
  have eu : u = Value.ref a := ru
  subst eu
  have hv : m ar.arg = some (.ref a) := by
    rcases lu with ⟨_, q⟩ | ⟨q, _⟩
    · exact q
    · have hka' : (envF F f s0.heap.objs.size).kindOf ar.arg = some .local := hka
      rcases q with q | q
      · have : (envF F f s0.heap.objs.size).kindOf ar.arg = some .cell := q
        rw [hka'] at this
        cases this
      · have : (envF F f s0.heap.objs.size).kindOf ar.arg = some .free := q
        rw [hka'] at this
        cases this
  obtain ⟨hh, g, d, t, os⟩ := s
  obtain ⟨oD, hD1, hD2⟩ : ∃ oD, hh.get? D = some oD ∧ oD.data = .cls cdD := by
    unfold PySem.W.clsIn at hD
    split at hD
    · rename_i c d cd' sl ho
      cases hD
      exact ⟨_, KX _ _ ho, rfl⟩
    · cases hD
  have hkc : F.scope.names.lookup ("__class__" : Str) = some .free := S.frk _ (List.mem_singleton.mpr rfl)
  have hcc : (envF F f s0.heap.objs.size).cells.lookup ("__class__" : Str) = some cc := by
    show F.cl.lookup _ = _
    rw [hcl]
    simp [List.lookup]
  refine PySem.ks_wpAt_super_base (env := envF F f s0.heap.objs.size) U.gS hkc (by decide) rfl (KX _ _ lk) rfl hp rfl (KX _ _ lcode) rfl hvs hfile G.top ?_
  obtain ⟨mb, b1, b2⟩ := I.mod.blt
  have gk : hh.Ns mainGlobals mg := I.mod.glob.keeps I.bk
  have bk : hh.Ns builtinsNs mb := b1.keeps I.bk
  refine PySem.W.ks_loadName_global S.kind U.gS (PySem.Calls.loadGlobal_builtin (env := envF F f s0.heap.objs.size) gk U.mS bk ((b2 _ (by decide +kernel)).trans (show bootBuiltins "super" = some (.type "super") by kernel_rfl)) ⟨rfl, ?_⟩)
  refine wpAny_loadName_free S.kind hkc hcc ⟨_, KX _ _ lcc, rfl⟩ ?_
  refine wpAny_loadName_local S.kind hka hn hv ?_
  refine PySem.ks_wpAny_isType_cls hD1 hD2 ⟨rfl, ?_⟩
  refine PySem.ks_wpAny_call_super hD1 hD2 IA.at_ IA.cls (fun c e => ?_) (PySem.W.looks_mroIn KX hm) (fun h' e k => ?_)
  · have := IA.no
    unfold PySem.W.notCls at this
    rw [e] at this
    exact Bool.noConfusion this
  · exact h _ _ e k rfl

theorem psa_superE {X : Cx} (hX : X = ncx CX P w K mg base N F f A outer s0 H0 E) (G : SupF P K f F fd D) (S : NScope N ps [("__class__" : Str)] F.scope) (U : SupS N F mg K) {e : Expr} {es : List Expr} {rest : List Stmt} {ta : TA} {u : TS} {p0 p1 p2 pos pos' : Pos}
    (ha : PA X (e :: es) ta) (hr : PSsA X F.body rest u)
    (hi : swapsWith (.Call (.Attribute (.Call (.Name "super" p0) [] [] p1) "__init__" p2) (e :: es) [] pos) none pos'.line X.env = pure false := by rfl)
    (he : starEach (e :: es) X.env = (false, eval e X.env) :: starEach es X.env := by rfl) (hpl : (backTo pos (starEach es X.env)).any (·.1) = false := by rfl)
    {pl : Sem Bool} (hev : eval (.Call (.Attribute (.Call (.Name "super" p0) [] [] p1) "__init__" p2) (e :: es) [] pos) X.env = (do
      let ov ← attributeBase (.Call (.Name "super" p0) [] [] p1) "__init__" X.env (eval (.Call (.Name "super" p0) [] [] p1) X.env)
      standAt p2.atName
      let (f, first) ← holding [ov] (getMethod ov "__init__" pl)
      callWith pos f first (backTo pos (starEach (e :: es) X.env)) []) := by rfl) :
    PSsA X F.body (.Expr (.Call (.Attribute (.Call (.Name "super" p0) [] [] p1) "__init__" p2) (e :: es) [] pos) pos' :: rest) (tSeq (tSupE K D ta) u) := by
  refine ⟨fun pins s σ H Dn I q => ?_⟩
  obtain ⟨a, C, hσ, ea, T, hm, hsup, hsub, q⟩ := q
  have eK : X.K = K := by rw [hX]; rfl
  have eE : interactive X.env = false := I.quiet
  refine PySem.ks_wpAt_execs_cons (PySem.ks_wpAt_Expr_any (PySem.ks_wpAt_MethodCall ?_ hev) eE hi)
  obtain ⟨t1, ho⟩ := exo_at I.hok ea
  refine super_obj hX G S U I hσ (C := C) (ox := { cls := .ref C, dict := none, data := .fields #[.ref t1, .none, .none, .none, .bool false, .none] }) (odx := none) ⟨ho, rfl, rfl, trivial⟩ hm fun so h' hso k hsz => ?_
  obtain ⟨hp, g, d, t, os⟩ := s
  have I1 : Inv X pins σ H ⟨h', g, d, t, os⟩ := Inv_push I k
  have KX1 : K.In h' := by rw [← eK]; exact I1.kIn
  obtain ⟨nm, qn, Nn, bs, bm, sn, sub, ab, col, dd, k0, k1, k2, k3, k5, hC, hbm⟩ := T.cls
  have hcl : PySem.W.clsIn K C = some { name := nm, bases := bs, mro := .ref C :: bm, ns := Nn, qualname := qn, hasDict := true, slotNames := sn, subclasses := sub, abstract := ab, collection := col, hasDel := false } := by unfold PySem.W.clsIn; rw [hC] <;> rfl
  have hsup' := hsup
  unfold PySem.W.ks_superIn at hsup'
  rw [hcl] at hsup'
  have IA1 : PySem.W.InstAt h' a { cls := .ref C, dict := none, data := .fields #[.ref t1, .none, .none, .none, .bool false, .none] } C none := ⟨k _ _ ho, rfl, rfl, trivial⟩
  have hI : PySem.W.Looks (model X.prog X.w) h' (isInstance (.ref a) (.type "ValueError")) true := IA1.type.andThen (PySem.W.looks_subIn KX1 hsub)
  refine PySem.W.kxs_getMethod PySem.W.kxs_ValueError hso (PySem.W.looks_opaque KX1 U.tp) (l₀ := .ref C :: bm) ((PySem.W.looks_clsIn KX1 hcl).andThen .now) rfl KX1 hsup' hI (PySem.W.ks_ne KX1 IA1 hcl) (by decide) ?_
  -- the bound wrapper
  have k2' : ∀ y o, h'.get? y = some o → (h'.push (PySem.W.kxs_mw "ValueError.__init__" a)).get? y = some o := fun y o z => Heap.get?_push_of_some _ z
  have hu : (h'.push (PySem.W.kxs_mw "ValueError.__init__" a)).get? h'.objs.size = some (PySem.W.kxs_mw "ValueError.__init__" a) := Heap.get?_push_at rfl rfl
  have I2 : Inv X pins σ H ⟨h'.push (PySem.W.kxs_mw "ValueError.__init__" a), g, d, t + 1, os⟩ := Inv_push I1 k2'
  have I3 := Inv.pinned (fp := [h'.objs.size]) I2 (fun b hb => by
    rw [List.mem_singleton.mp hb]
    exact I1.fpOk (Nat.le_refl _) (I1.hok.fresh (Nat.le_refl _))) (fun b hb => by
    rw [List.mem_singleton.mp hb]
    exact ⟨_, hu, fun v z => by cases z⟩)
  show wpAny _ _ (callWith pos (.ref h'.objs.size) [] (backTo pos (starEach (e :: es) X.env)) []) _ _ _
  rw [he]
  refine PySem.W.kxs_callWith (i := "ValueError.__init__") (x := a) (by show (false || (backTo pos (starEach es X.env)).any (·.1)) = false; rw [hpl]; rfl) ?_
  refine PySem.Calls.evalArgs_plain ?_
  show wpAny _ _ (spliced (backTo pos ((false, eval e X.env) :: starEach es X.env))) _ _ _
  rw [← he]
  refine thn (ha.run pos _ _ σ H _ I3 q) fun us s2 ⟨vs, H1, J, r, hl, ea1, q1⟩ => ?_
  have hu2 : s2.heap.get? h'.objs.size = some (PySem.W.kxs_mw "ValueError.__init__" a) := (J.pin (h'.objs.size, _) (List.mem_append_right _ (List.mem_append_right _ (mem_pinsAt (List.mem_singleton.mpr rfl) hu)))).1
  refine ⟨hu2, ?_⟩
  have J0 : Inv X pins σ H1 s2 := J.unpinned
  obtain ⟨t2, ho2⟩ := exo_at J0.hok ea1
  have hC2 := (show K.In s2.heap by rw [← eK]; exact J0.kIn) _ _ hC
  have hlen : us.length ≤ sizeLine := by
    rw [← Paired.length r, sizeLine_eq]
    omega
  obtain ⟨hp2, g2, d2, tk2, os2⟩ := s2
  refine wpAny_call (codeAny_of_tree ?_)
  show wpAny _ X.A.in1 (callAny (.ref h'.objs.size) ⟨us, []⟩) _ _ _
  simp only [callAny]
  refine wpAny_bind (wpAny_load hu2 ?_)
  simp only [PySem.W.kxs_mw, show (Value.type "method-wrapper" == Value.type "method" || Value.type "method-wrapper" == Value.type "builtin_function_or_method" || Value.type "method-wrapper" == Value.type "method-wrapper") = true by decide, if_true]
  refine PySem.W.KFB.if_so (by decide) ?_
  refine wpAny_bind (PySem.W.check_bound_init PySem.F.excBase_ValueError.toExcCallFacts hC2 ho2 rfl ?_)
  refine wpAny_bind (wpAny_pure (wpAny_pure ?_))
  refine ⟨Code.quiet_builtin _ (by decide +kernel), codeAny_builtin PySem.F.excBase_ValueError.initEntry ?_⟩
  refine PySem.W.exc_init_tree (cls := .ref C) (t0 := t2) (dv := none) (c2 := .none) (c3 := .none) (b4 := .bool false) ho2 hlen fun h3 k3' e3 _ => ?_
  have J1 := J0.write (t' := tk2) (x := a) (e := a) (o := exo a C none) (by rw [ea1]; exact True.intro) (.inl rfl) k3' ⟨_, e3⟩ (exo_ok e3)
  have eu : upd H1 a (exo a C none) = H1 := by
    funext b
    by_cases hb : b = a
    · rw [hb, upd_same, ea1]
    · rw [upd_ne hb]
  rw [eu] at J1
  exact hr.run pins _ σ H1 Dn J1 q1
end

/-! ### an own exception with one field, with two -/
structure ExcT (K : PySem.W.Frag) (C : Addr) : Prop where
  T : OexC K C
  hm : PySem.W.mroIn K C (.ref C) = some true
  hsup : PySem.W.ks_superIn K C C "__init__" = some (some (.builtin "ValueError.__init__"))
  hsub : PySem.W.subIn K (.ref C) (.type "ValueError") = some true

/-- the promise of such an __init__: the error's dict holds the fields -/
def spEx (K : PySem.W.Frag) (C : Addr) (fl : List Str) : Sp := fun vs H Q _ => ∃ (a : Addr) (ys : List V), vs = .ref a :: ys ∧ ys.length = fl.length ∧ H a = some (exo a C none) ∧
  ∀ d, H d = none → d ≠ a → Q .non (upd (upd H d (exd d (fl.zip ys).reverse)) a (exo a C (some d)))

section
variable {CX : CXT} {P : Program} {w : World} {K : PySem.W.Frag} {mg : Str → Option Value} {base : Heap} {F : NF} {f C : Addr} {fd : FuncData}
theorem exc1_ok {x msg : Str} {p0 p1 p2 p3 p4 p5 p6 p7 p8 p9 : Pos} {j : Nat} {pl : Sem Bool} (hev : ∀ env : Env, eval (.Call (.Attribute (.Call (.Name "super" p0) [] [] p1) "__init__" p2) [.Constant (.str msg) j p3] [] p4) env = (do
      let ov ← attributeBase (.Call (.Name "super" p0) [] [] p1) "__init__" env (eval (.Call (.Name "super" p0) [] [] p1) env)
      standAt p2.atName
      let (f, first) ← holding [ov] (getMethod ov "__init__" pl)
      callWith p4 f first (backTo p4 (starEach [.Constant (.str msg) j p3] env)) [])) (G : SupF P K f F fd C) (S : NScope ["self", x, "__class__"] ["self", x] [("__class__" : Str)] F.scope) (U : SupS ["self", x, "__class__"] F mg K) (T : ExcT K C) (hno : PySem.W.findIn K (.ref C) x = some none)
    (hb : F.body = [.Expr (.Call (.Attribute (.Call (.Name "super" p0) [] [] p1) "__init__" p2) [.Constant (.str msg) j p3] [] p4) p5, .Assign [.Attribute (.Name "self" p6) x p7] (.Name x p8) p9])
    (hl0 : F.scope.names.lookup ("self" : Str) = some .local) (hl1 : F.scope.names.lookup x = some .local) (hd : (x == ("__debug__" : Str)) = false := by decide) (hcd : (x == ("__classdict__" : Str)) = false := by decide) :
    FnOk P w K mg base CX 1 f fd ["self", x] (spEx K C [x]) := by
  refine fnS_of G S (fun vs H Q E h => ?_) (fun A outer s H vs Q E hr h => ?_)
  · obtain ⟨a, ys, rfl, hl, _⟩ := h
    show ys.length + 1 = 2
    rw [hl] <;> rfl
  · obtain ⟨a, ys, rfl, hl, ha, k⟩ := h
    match ys, hl with
    | [y], _ =>
      refine ⟨_, PSsA.cast hb.symm (psa_superE (X := ncx CX P w K mg base ["self", x, "__class__"] F f A outer s H E) rfl G S U (p0 := p0) (p1 := p1) (p2 := p2) (pos := p4) (pos' := p5)
          (pa_cons (pe_str (x := msg) (j := j) (pos := p3)) pa_nil) (psa_of (fb := F.body) (pss_one (ps_ost (o := .Name "self" p6) (f := x) (p' := p7) (e := .Name x p8) (pos := p9) (pe_var (i := 0) rfl (.inl hl0)) (pe_var (i := 1) rfl (.inl hl1) hd hcd)))) (hev := hev _)), ?_⟩
      · refine ⟨a, C, rfl, ha, T.T, T.hm, T.hsup, T.hsub, ?_⟩
        refine ⟨by show 1 ≤ 1000; decide, ha, ?_⟩
        refine ⟨y, rfl, .ref a, rfl, a, C, rfl, T.T, hno, .inl ⟨ha, fun dx hdx hne => ?_⟩⟩
        exact k dx hdx hne
theorem exc2_ok {x y msg : Str} {p0 p1 p2 p3 p4 p5 p6 p7 p8 p9 q6 q7 q8 q9 : Pos} {j : Nat} {pl : Sem Bool} (hev : ∀ env : Env, eval (.Call (.Attribute (.Call (.Name "super" p0) [] [] p1) "__init__" p2) [.Constant (.str msg) j p3] [] p4) env = (do
      let ov ← attributeBase (.Call (.Name "super" p0) [] [] p1) "__init__" env (eval (.Call (.Name "super" p0) [] [] p1) env)
      standAt p2.atName
      let (f, first) ← holding [ov] (getMethod ov "__init__" pl)
      callWith p4 f first (backTo p4 (starEach [.Constant (.str msg) j p3] env)) [])) (G : SupF P K f F fd C) (S : NScope ["self", x, y, "__class__"] ["self", x, y] [("__class__" : Str)] F.scope) (U : SupS ["self", x, y, "__class__"] F mg K) (T : ExcT K C) (hno : PySem.W.findIn K (.ref C) x = some none) (hno2 : PySem.W.findIn K (.ref C) y = some none)
    (hb : F.body = [.Expr (.Call (.Attribute (.Call (.Name "super" p0) [] [] p1) "__init__" p2) [.Constant (.str msg) j p3] [] p4) p5, .Assign [.Attribute (.Name "self" p6) x p7] (.Name x p8) p9, .Assign [.Attribute (.Name "self" q6) y q7] (.Name y q8) q9])
    (hl0 : F.scope.names.lookup ("self" : Str) = some .local) (hl1 : F.scope.names.lookup x = some .local) (hl2 : F.scope.names.lookup y = some .local) (hd : (x == ("__debug__" : Str)) = false := by decide) (hcd : (x == ("__classdict__" : Str)) = false := by decide)
    (hd2 : (y == ("__debug__" : Str)) = false := by decide) (hcd2 : (y == ("__classdict__" : Str)) = false := by decide) :
    FnOk P w K mg base CX 1 f fd ["self", x, y] (spEx K C [x, y]) := by
  refine fnS_of G S (fun vs H Q E h => ?_) (fun A outer s H vs Q E hr h => ?_)
  · obtain ⟨a, ys, rfl, hl, _⟩ := h
    show ys.length + 1 = 3
    rw [hl] <;> rfl
  · obtain ⟨a, ys, rfl, hl, ha, k⟩ := h
    match ys, hl with
    | [u, v], _ =>
      refine ⟨_, PSsA.cast hb.symm (psa_superE (X := ncx CX P w K mg base ["self", x, y, "__class__"] F f A outer s H E) rfl G S U (p0 := p0) (p1 := p1) (p2 := p2) (pos := p4) (pos' := p5)
          (pa_cons (pe_str (x := msg) (j := j) (pos := p3)) pa_nil) (psa_of (fb := F.body) (pss_cons (ps_ost (o := .Name "self" p6) (f := x) (p' := p7) (e := .Name x p8) (pos := p9) (pe_var (i := 0) rfl (.inl hl0)) (pe_var (i := 1) rfl (.inl hl1) hd hcd))
            (pss_one (ps_ost (o := .Name "self" q6) (f := y) (p' := q7) (e := .Name y q8) (pos := q9) (pe_var (i := 0) rfl (.inl hl0)) (pe_var (i := 2) rfl (.inl hl2) hd2 hcd2))))) (hev := hev _)), ?_⟩
      · refine ⟨a, C, rfl, ha, T.T, T.hm, T.hsup, T.hsub, ?_⟩
        refine ⟨by show 1 ≤ 1000; decide, ha, ?_⟩
        refine ⟨u, rfl, .ref a, rfl, a, C, rfl, T.T, hno, .inl ⟨ha, fun dx hdx hne => ?_⟩⟩
        refine ⟨v, rfl, .ref a, rfl, a, C, rfl, T.T, hno2, .inr ⟨dx, [(x, u)], upd_same, by rw [upd_ne hne, upd_same], by show 1 ≤ 900; decide, ?_⟩⟩
        have e : upd (upd (upd H dx (exd dx [(x, u)])) a (exo a C (some dx))) dx (exd dx ((y, v) :: [(x, u)])) = upd (upd H dx (exd dx [(y, v), (x, u)])) a (exo a C (some dx)) := by
          funext b
          by_cases h1 : b = dx
          · subst h1
            rw [upd_same, upd_ne hne, upd_same]
          · rw [upd_ne h1]
            by_cases h2 : b = a
            · subst h2
              rw [upd_same, upd_same]
            · rw [upd_ne h2, upd_ne h2, upd_ne h1, upd_ne h1]
        show Q .non (upd (upd (upd H dx (exd dx [(x, u)])) a (exo a C (some dx))) dx (exd dx ((y, v) :: [(x, u)])))
        rw [e]
        exact k dx hdx hne
end

/-- C(e, ..): the arguments, then an error with their values as fields -/
theorem pmk_ex {X : Cx} {CX : CXT} {x : Str} {C fI : Addr} {k : Nat} {fd : FuncData} {fl ps : List Str} {e : Expr} {es : List Expr} {p pos : Pos} {ta : TA} (T : ExcT X.K C) (iC : PySem.W.findIn X.K (.ref C) "__init__" = some (some (.ref fI))) (tI : PySem.W.typeIn X.K (.ref fI) = some (.type "function"))
    (F1 : FnOk X.prog X.w X.K X.mg X.base CX k fI fd ps (spEx X.K C fl)) (hr : Room (k + 1) X.A) (hb : Binds X.K fd ps []) (hx : Passes CX X (fun _ _ _ => False)) (hg : Gl X x) (hm : X.mg x = some (.ref C)) (ha : PA X (e :: es) ta)
    (hdb : (x == ("__debug__" : Str)) = false := by decide) (he : starEach (e :: es) X.env = (false, eval e X.env) :: starEach es X.env := by rfl) (hpl : (backTo pos (starEach es X.env)).any (·.1) = false := by rfl) :
    PMk X (.Call (.Name x p) (e :: es) [] pos) (tMkO C (spEx X.K C fl) [] ta) := pmk_oex (p := p) T.T iC tI F1 hr hb .nil hx hg hm ha hdb he hpl
theorem mkO_of {K : PySem.W.Frag} {C : Addr} {fl : List Str} {vs : List V} {H1 : Hp} {Q : XK} (hl : vs.length = fl.length) (hfl : fl.length ≤ 100) (q : ∀ d, H1 d = none → Q (.ref C) (some d) (upd H1 d (.xd (fl.zip vs).reverse))) :
    vs.length ≤ 1000 ∧ ∀ a, H1 a = none → spEx K C fl (.ref a :: (vs ++ [])) (upd H1 a (exo a C none))
      (fun v H2 => v = .non ∧ ∃ (d : Addr) (fs : List (Str × V)), H2 a = some (exo a C (some d)) ∧ H2 d = some (exd d fs) ∧ H1 d = none ∧ Q (.ref C) (some d) (upd (del H2 a) d (.xd fs))) (fun _ _ _ => False) := by
  refine ⟨by omega, fun a ha => ⟨a, vs, by rw [List.append_nil], hl, upd_same, fun d hd hne => ?_⟩⟩
  rw [upd_ne hne] at hd
  refine ⟨rfl, d, _, upd_same, by rw [upd_ne hne]; exact upd_same, hd, ?_⟩
  have e : upd (del (upd (upd (upd H1 a (exo a C none)) d (exd d (fl.zip vs).reverse)) a (exo a C (some d))) a) d (.xd (fl.zip vs).reverse) = upd H1 d (.xd (fl.zip vs).reverse) := by
    funext b
    by_cases h1 : b = d
    · subst h1
      rw [upd_same, upd_same]
    · rw [upd_ne h1, upd_ne h1]
      by_cases h2 : b = a
      · subst h2
        rw [del_same, ha]
      · rw [del_ne h2, upd_ne h2, upd_ne h1, upd_ne h2]
  rw [e]
  exact q d hd
end PV

/-! A value semantics for bodies: data (D), owned things (O), what stands for them in the heap (Fz, Ow), the invariant Rel. -/
namespace PV
open PySem PySem.Spec PyProof.Rows L2

/-- data that no one changes any more -/
inductive D where
  | non | bl (b : Bool) | int (i : Int) | str (s : Str)
  | tup (ds : List D) | lst (ds : List D)
  /-- the law's script -/
  | scr (ns : List Int)
  /-- dicts: keys ints and texts; keys tuples of these -/
  | dk (ks : List Key) (ds : List D) | dt (ks : List (List Key)) (ds : List D)
  /-- an instance of the class of this name: its fields' names and values -/
  | ins (c : Str) (ns : List Str) (ds : List D)
/-- what one name alone holds: it may be changed -/
inductive O where
  | fz (d : D)
  | lst (os : List O)
  | dk (ks : List Key) (os : List O) | dt (ks : List (List Key)) (os : List O)
  | ins (c : Str) (ns : List Str) (os : List O)
/-- an error: its class, its fields -/
structure Exc where
  c : Str
  ns : List Str
  ds : List D
/-- what a slot holds: nothing known, a thing, a borrowed list, a caught error -/
inductive Sl where
  | un | o (o : O) | bo (ds : List D) | ex (x : Exc)
abbrev Env := List Sl
inductive Rs (α : Type) where
  | stuck | ok (a : α) (e : PV.Env) | exc (x : Exc) (e : PV.Env)
def Rs.bind {α β : Type} : Rs α → (α → PV.Env → Rs β) → Rs β
  | .stuck, _ => .stuck
  | .ok a e, k => k a e
  | .exc x e, _ => .exc x e
abbrev Sm (α : Type) := PV.Env → Rs α
/-- how a block ends -/
inductive Fl where
  | nx | rt (d : D) | bk | ct
/-- what a def hands back -/
inductive Rv where
  | stuck | ok (d : D) | exc (x : Exc)

mutual
def O.toD : O → D
  | .fz d => d
  | .lst os => .lst (O.toDs os)
  | .dk ks os => .dk ks (O.toDs os)
  | .dt ks os => .dt ks (O.toDs os)
  | .ins c ns os => .ins c ns (O.toDs os)
def O.toDs : List O → List D
  | [] => []
  | o :: os => o.toD :: O.toDs os
end
theorem toDs_map : ∀ os : List O, O.toDs os = os.map O.toD
  | [] => by rw [O.toDs]; rfl
  | o :: os => by rw [O.toDs, toDs_map os]; rfl
theorem toDs_fz : ∀ ds : List D, O.toDs (ds.map O.fz) = ds
  | [] => by rw [List.map_nil, O.toDs]
  | d :: ds => by rw [List.map_cons, O.toDs, toDs_fz ds, O.toD]

/-! ### heaps -/
def dictO : HO → Bool
  | .dK _ => true
  | .dT _ => true
  | _ => false
/-- H has all of G (a dict may be locked meanwhile) -/
def Le (G H : Hp) : Prop := ∀ a u, G a = some u → H a = some u ∨ (dictO u = true ∧ ∃ o, H a = some (.frz o u))
theorem Le.refl (G : Hp) : Le G G := fun _ _ h => .inl h
theorem Le.trans {G H J : Hp} (a : Le G H) (b : Le H J) : Le G J := fun p u h => by
  rcases a p u h with h | ⟨hd, o, h⟩
  · exact b p u h
  · rcases b p _ h with h | ⟨hd', _⟩
    · exact .inr ⟨hd, o, h⟩
    · cases hd'
theorem Le.of {G H : Hp} (h : ∀ a u, G a = some u → H a = some u) : Le G H := fun a u e => .inl (h a u e)
theorem Le.x {G H : Hp} (l : Le G H) {a : Addr} {u : HO} (h : G a = some u) (hd : dictO u = false) : H a = some u := by
  rcases l a u h with h | ⟨e, _⟩
  · exact h
  · rw [hd] at e
    cases e
theorem Le.ne {G H : Hp} (l : Le G H) {a : Addr} (h : H a = none) : G a = none := by
  cases e : G a with
  | none => rfl
  | some u =>
    rcases l a u e with q | ⟨_, o, q⟩ <;> (rw [h] at q; cases q)
theorem Le.rd {G H : Hp} (l : Le G H) {a : Addr} {u : HO} (h : Rd G a u) : Rd H a u := by
  rcases h with h | ⟨o, h⟩
  · rcases l a u h with h | ⟨_, o, h⟩
    · exact .inl h
    · exact .inr ⟨o, h⟩
  · exact .inr ⟨o, l.x h rfl⟩
theorem Le.sqT {K : PySem.W.Frag} {G H : Hp} (l : Le G H) {a : Addr} {vs : List V} (h : SqT K G a vs) : SqT K H a vs := h.elim (fun h => .inl (l.rd h)) .inr
theorem Le.sqL {K : PySem.W.Frag} {G H : Hp} (l : Le G H) {a : Addr} {vs : List V} (h : SqL K G a vs) : SqL K H a vs := h.elim (fun h => .inl (l.rd h)) .inr
theorem Le.new {H : Hp} {a : Addr} {u : HO} (h : H a = none) : Le H (upd H a u) := fun b o e => .inl (by rw [upd_ne (ne_of_none e h)]; exact e)

/-! ### what stands for data -/
mutual
def Fz (K : PySem.W.Frag) (G : Hp) : D → V → Prop
  | .non, v => v = .non
  | .bl b, v => v = .bl b
  | .int i, v => v = .int i
  | .str s, v => v = .str s
  | .tup ds, v => ∃ a vs, v = .ref a ∧ SqT K G a vs ∧ Fzs K G ds vs
  | .lst ds, v => ∃ a vs, v = .ref a ∧ G a = some (.lst vs) ∧ Fzs K G ds vs
  | .scr ns, v => ∃ a, v = .ref a ∧ SqL K G a (ns.map V.int)
  | .dk ks ds, v => ∃ a vs, v = .ref a ∧ G a = some (.dK (ks.zip vs)) ∧ ks.length = vs.length ∧ Fzs K G ds vs
  | .dt ks ds, v => ∃ a vs, v = .ref a ∧ G a = some (.dT (ks.zip vs)) ∧ ks.length = vs.length ∧ Fzs K G ds vs
  | .ins c ns ds, v => ∃ a dx vs, v = .ref a ∧ G a = some (.ins (He.ga K c) dx (ns.zip vs)) ∧ ns.length = vs.length ∧ Fzs K G ds vs
def Fzs (K : PySem.W.Frag) (G : Hp) : List D → List V → Prop
  | [], vs => vs = []
  | d :: ds, vs => ∃ x xs, vs = x :: xs ∧ Fz K G d x ∧ Fzs K G ds xs
end
mutual
/-- o at v: fp its own addresses -/
def Ow (K : PySem.W.Frag) (G H : Hp) : O → V → List Addr → Prop
  | .fz d, v, fp => fp = [] ∧ Fz K G d v
  | .lst os, v, fp => ∃ a vs f, v = .ref a ∧ H a = some (.lst vs) ∧ Ows K G H os vs f ∧ fp = a :: f
  | .dk ks os, v, fp => ∃ a vs f, v = .ref a ∧ H a = some (.dK (ks.zip vs)) ∧ ks.length = vs.length ∧ Ows K G H os vs f ∧ fp = a :: f
  | .dt ks os, v, fp => ∃ a vs f, v = .ref a ∧ H a = some (.dT (ks.zip vs)) ∧ ks.length = vs.length ∧ Ows K G H os vs f ∧ fp = a :: f
  | .ins c ns os, v, fp => ∃ a dx vs f, v = .ref a ∧ H a = some (.ins (He.ga K c) dx (ns.zip vs)) ∧ ns.length = vs.length ∧ Ows K G H os vs f ∧ fp = a :: f
def Ows (K : PySem.W.Frag) (G H : Hp) : List O → List V → List Addr → Prop
  | [], vs, fp => vs = [] ∧ fp = []
  | o :: os, vs, fp => ∃ x xs f1 f2, vs = x :: xs ∧ Ow K G H o x f1 ∧ Ows K G H os xs f2 ∧ fp = f1 ++ f2
end
/-- G' has all of G -/
def Ext (G G' : Hp) : Prop := ∀ a u, G a = some u → G' a = some u
theorem Ext.refl (G : Hp) : Ext G G := fun _ _ h => h
theorem Ext.trans {G H J : Hp} (a : Ext G H) (b : Ext H J) : Ext G J := fun p u h => b p u (a p u h)
theorem Ext.le {G H : Hp} (l : Ext G H) : Le G H := fun a u h => .inl (l a u h)
section
variable {K : PySem.W.Frag} {G G' H H' : Hp}
mutual
theorem Fz.mono (l : Ext G G') : ∀ (d : D) (v : V), Fz K G d v → Fz K G' d v
  | .non, v, h => by simpa only [Fz] using h
  | .bl b, v, h => by simpa only [Fz] using h
  | .int i, v, h => by simpa only [Fz] using h
  | .str s, v, h => by simpa only [Fz] using h
  | .tup ds, v, h => by
    rw [Fz] at h ⊢
    obtain ⟨a, vs, e, q, r⟩ := h
    exact ⟨a, vs, e, l.le.sqT q, Fzs.mono l ds vs r⟩
  | .lst ds, v, h => by
    rw [Fz] at h ⊢
    obtain ⟨a, vs, e, q, r⟩ := h
    exact ⟨a, vs, e, l _ _ q, Fzs.mono l ds vs r⟩
  | .scr ns, v, h => by
    rw [Fz] at h ⊢
    obtain ⟨a, e, q⟩ := h
    exact ⟨a, e, l.le.sqL q⟩
  | .dk ks ds, v, h => by
    rw [Fz] at h ⊢
    obtain ⟨a, vs, e, q, z, r⟩ := h
    exact ⟨a, vs, e, l _ _ q, z, Fzs.mono l ds vs r⟩
  | .dt ks ds, v, h => by
    rw [Fz] at h ⊢
    obtain ⟨a, vs, e, q, z, r⟩ := h
    exact ⟨a, vs, e, l _ _ q, z, Fzs.mono l ds vs r⟩
  | .ins c ns ds, v, h => by
    rw [Fz] at h ⊢
    obtain ⟨a, dx, vs, e, q, z, r⟩ := h
    exact ⟨a, dx, vs, e, l _ _ q, z, Fzs.mono l ds vs r⟩
theorem Fzs.mono (l : Ext G G') : ∀ (ds : List D) (vs : List V), Fzs K G ds vs → Fzs K G' ds vs
  | [], vs, h => by simpa only [Fzs] using h
  | d :: ds, vs, h => by
    rw [Fzs] at h ⊢
    obtain ⟨x, xs, e, q, r⟩ := h
    exact ⟨x, xs, e, Fz.mono l d x q, Fzs.mono l ds xs r⟩
end
mutual
theorem Ow.mono (l : Ext G G') : ∀ (o : O) (v : V) (fp : List Addr), Ow K G H o v fp → (∀ a ∈ fp, H' a = H a) → Ow K G' H' o v fp
  | .fz d, v, fp, h, k => by
    rw [Ow] at h ⊢
    exact ⟨h.1, Fz.mono l d v h.2⟩
  | .lst os, v, fp, h, k => by
    rw [Ow] at h ⊢
    obtain ⟨a, vs, f, e, q, r, rfl⟩ := h
    exact ⟨a, vs, f, e, by rw [k a List.mem_cons_self]; exact q, Ows.mono l os vs f r fun b hb => k b (List.mem_cons_of_mem _ hb), rfl⟩
  | .dk ks os, v, fp, h, k => by
    rw [Ow] at h ⊢
    obtain ⟨a, vs, f, e, q, z, r, rfl⟩ := h
    exact ⟨a, vs, f, e, by rw [k a List.mem_cons_self]; exact q, z, Ows.mono l os vs f r fun b hb => k b (List.mem_cons_of_mem _ hb), rfl⟩
  | .dt ks os, v, fp, h, k => by
    rw [Ow] at h ⊢
    obtain ⟨a, vs, f, e, q, z, r, rfl⟩ := h
    exact ⟨a, vs, f, e, by rw [k a List.mem_cons_self]; exact q, z, Ows.mono l os vs f r fun b hb => k b (List.mem_cons_of_mem _ hb), rfl⟩
  | .ins c ns os, v, fp, h, k => by
    rw [Ow] at h ⊢
    obtain ⟨a, dx, vs, f, e, q, z, r, rfl⟩ := h
    exact ⟨a, dx, vs, f, e, by rw [k a List.mem_cons_self]; exact q, z, Ows.mono l os vs f r fun b hb => k b (List.mem_cons_of_mem _ hb), rfl⟩
theorem Ows.mono (l : Ext G G') : ∀ (os : List O) (vs : List V) (fp : List Addr), Ows K G H os vs fp → (∀ a ∈ fp, H' a = H a) → Ows K G' H' os vs fp
  | [], vs, fp, h, k => by
    rw [Ows] at h ⊢
    exact h
  | o :: os, vs, fp, h, k => by
    rw [Ows] at h ⊢
    obtain ⟨x, xs, f1, f2, e, q, r, rfl⟩ := h
    exact ⟨x, xs, f1, f2, e, Ow.mono l o x f1 q fun b hb => k b (List.mem_append_left _ hb), Ows.mono l os xs f2 r fun b hb => k b (List.mem_append_right _ hb), rfl⟩
end
mutual
theorem Ow.there : ∀ (o : O) (v : V) (fp : List Addr), Ow K G H o v fp → ∀ a ∈ fp, ∃ u, H a = some u
  | .fz d, v, fp, h, a, ha => by
    rw [Ow] at h
    rw [h.1] at ha
    cases ha
  | .lst os, v, fp, h, a, ha => by
    rw [Ow] at h
    obtain ⟨b, vs, f, e, q, r, rfl⟩ := h
    rcases List.mem_cons.mp ha with rfl | ha
    · exact ⟨_, q⟩
    · exact Ows.there os vs f r a ha
  | .dk ks os, v, fp, h, a, ha => by
    rw [Ow] at h
    obtain ⟨b, vs, f, e, q, z, r, rfl⟩ := h
    rcases List.mem_cons.mp ha with rfl | ha
    · exact ⟨_, q⟩
    · exact Ows.there os vs f r a ha
  | .dt ks os, v, fp, h, a, ha => by
    rw [Ow] at h
    obtain ⟨b, vs, f, e, q, z, r, rfl⟩ := h
    rcases List.mem_cons.mp ha with rfl | ha
    · exact ⟨_, q⟩
    · exact Ows.there os vs f r a ha
  | .ins c ns os, v, fp, h, a, ha => by
    rw [Ow] at h
    obtain ⟨b, dx, vs, f, e, q, z, r, rfl⟩ := h
    rcases List.mem_cons.mp ha with rfl | ha
    · exact ⟨_, q⟩
    · exact Ows.there os vs f r a ha
theorem Ows.there : ∀ (os : List O) (vs : List V) (fp : List Addr), Ows K G H os vs fp → ∀ a ∈ fp, ∃ u, H a = some u
  | [], vs, fp, h, a, ha => by
    rw [Ows] at h
    rw [h.2] at ha
    cases ha
  | o :: os, vs, fp, h, a, ha => by
    rw [Ows] at h
    obtain ⟨x, xs, f1, f2, e, q, r, rfl⟩ := h
    rcases List.mem_append.mp ha with ha | ha
    · exact Ow.there o x f1 q a ha
    · exact Ows.there os xs f2 r a ha
end
mutual
theorem Ow.noxd : ∀ (o : O) (v : V) (fp : List Addr), Ow K G H o v fp → ∀ a ∈ fp, ∀ fs, H a ≠ some (.xd fs)
  | .fz d, v, fp, h, a, ha => by
    rw [Ow] at h
    rw [h.1] at ha
    cases ha
  | .lst os, v, fp, h, a, ha => by
    rw [Ow] at h
    obtain ⟨b, vs, f, e, q, r, rfl⟩ := h
    rcases List.mem_cons.mp ha with rfl | ha
    · intro fs z
      rw [q] at z
      cases z
    · exact Ows.noxd os vs f r a ha
  | .dk ks os, v, fp, h, a, ha => by
    rw [Ow] at h
    obtain ⟨b, vs, f, e, q, z, r, rfl⟩ := h
    rcases List.mem_cons.mp ha with rfl | ha
    · intro fs z
      rw [q] at z
      cases z
    · exact Ows.noxd os vs f r a ha
  | .dt ks os, v, fp, h, a, ha => by
    rw [Ow] at h
    obtain ⟨b, vs, f, e, q, z, r, rfl⟩ := h
    rcases List.mem_cons.mp ha with rfl | ha
    · intro fs z
      rw [q] at z
      cases z
    · exact Ows.noxd os vs f r a ha
  | .ins c ns os, v, fp, h, a, ha => by
    rw [Ow] at h
    obtain ⟨b, dx, vs, f, e, q, z, r, rfl⟩ := h
    rcases List.mem_cons.mp ha with rfl | ha
    · intro fs z
      rw [q] at z
      cases z
    · exact Ows.noxd os vs f r a ha
theorem Ows.noxd : ∀ (os : List O) (vs : List V) (fp : List Addr), Ows K G H os vs fp → ∀ a ∈ fp, ∀ fs, H a ≠ some (.xd fs)
  | [], vs, fp, h, a, ha => by
    rw [Ows] at h
    rw [h.2] at ha
    cases ha
  | o :: os, vs, fp, h, a, ha => by
    rw [Ows] at h
    obtain ⟨x, xs, f1, f2, e, q, r, rfl⟩ := h
    rcases List.mem_append.mp ha with ha | ha
    · exact Ow.noxd o x f1 q a ha
    · exact Ows.noxd os xs f2 r a ha
end
mutual
/-- what is owned becomes data -/
theorem Ow.cool (l : Ext G G') : ∀ (o : O) (v : V) (fp : List Addr), Ow K G H o v fp → (∀ a ∈ fp, G' a = H a) → Fz K G' o.toD v
  | .fz d, v, fp, h, k => by
    rw [Ow] at h
    rw [O.toD]
    exact Fz.mono l d v h.2
  | .lst os, v, fp, h, k => by
    rw [Ow] at h
    rw [O.toD, Fz]
    obtain ⟨a, vs, f, e, q, r, rfl⟩ := h
    exact ⟨a, vs, e, by rw [k a List.mem_cons_self]; exact q, Ows.cool l os vs f r fun b hb => k b (List.mem_cons_of_mem _ hb)⟩
  | .dk ks os, v, fp, h, k => by
    rw [Ow] at h
    rw [O.toD, Fz]
    obtain ⟨a, vs, f, e, q, z, r, rfl⟩ := h
    exact ⟨a, vs, e, by rw [k a List.mem_cons_self]; exact q, z, Ows.cool l os vs f r fun b hb => k b (List.mem_cons_of_mem _ hb)⟩
  | .dt ks os, v, fp, h, k => by
    rw [Ow] at h
    rw [O.toD, Fz]
    obtain ⟨a, vs, f, e, q, z, r, rfl⟩ := h
    exact ⟨a, vs, e, by rw [k a List.mem_cons_self]; exact q, z, Ows.cool l os vs f r fun b hb => k b (List.mem_cons_of_mem _ hb)⟩
  | .ins c ns os, v, fp, h, k => by
    rw [Ow] at h
    rw [O.toD, Fz]
    obtain ⟨a, dx, vs, f, e, q, z, r, rfl⟩ := h
    exact ⟨a, dx, vs, e, by rw [k a List.mem_cons_self]; exact q, z, Ows.cool l os vs f r fun b hb => k b (List.mem_cons_of_mem _ hb)⟩
theorem Ows.cool (l : Ext G G') : ∀ (os : List O) (vs : List V) (fp : List Addr), Ows K G H os vs fp → (∀ a ∈ fp, G' a = H a) → Fzs K G' (O.toDs os) vs
  | [], vs, fp, h, k => by
    rw [Ows] at h
    rw [O.toDs, Fzs]
    exact h.1
  | o :: os, vs, fp, h, k => by
    rw [Ows] at h
    rw [O.toDs, Fzs]
    obtain ⟨x, xs, f1, f2, e, q, r, rfl⟩ := h
    exact ⟨x, xs, e, Ow.cool l o x f1 q fun b hb => k b (List.mem_append_left _ hb), Ows.cool l os xs f2 r fun b hb => k b (List.mem_append_right _ hb)⟩
end
theorem Ow.fz {d : D} {v : V} (h : Fz K G d v) : Ow K G H (.fz d) v [] := by rw [Ow]; exact ⟨rfl, h⟩
theorem Ows.fzs : ∀ {ds : List D} {vs : List V}, Fzs K G ds vs → Ows K G H (ds.map O.fz) vs []
  | [], vs, h => by
    rw [Fzs] at h
    rw [List.map_nil, Ows]
    exact ⟨h, rfl⟩
  | d :: ds, vs, h => by
    rw [Fzs] at h
    obtain ⟨x, xs, e, q, r⟩ := h
    rw [List.map_cons, Ows]
    exact ⟨x, xs, [], [], e, Ow.fz q, Ows.fzs r, rfl⟩
theorem Fzs.len : ∀ {ds : List D} {vs : List V}, Fzs K G ds vs → ds.length = vs.length
  | [], vs, h => by
    rw [Fzs] at h
    rw [h] <;> rfl
  | d :: ds, vs, h => by
    rw [Fzs] at h
    obtain ⟨x, xs, rfl, q, r⟩ := h
    rw [List.length_cons, List.length_cons, Fzs.len r]
theorem Fzs.get : ∀ {ds : List D} {vs : List V} {i : Nat} {d : D}, Fzs K G ds vs → ds[i]? = some d → ∃ v, vs[i]? = some v ∧ Fz K G d v
  | [], vs, i, d, h, e => by simp at e
  | d :: ds, vs, 0, d', h, e => by
    rw [Fzs] at h
    obtain ⟨x, xs, rfl, q, r⟩ := h
    simp at e
    subst e
    exact ⟨x, by simp, q⟩
  | d :: ds, vs, i + 1, d', h, e => by
    rw [Fzs] at h
    obtain ⟨x, xs, rfl, q, r⟩ := h
    obtain ⟨v, h1, h2⟩ := Fzs.get (i := i) r (by simpa using e)
    exact ⟨v, by simpa using h1, h2⟩
theorem Fzs.app : ∀ {ds es : List D} {vs us : List V}, Fzs K G ds vs → Fzs K G es us → Fzs K G (ds ++ es) (vs ++ us)
  | [], es, vs, us, h, k => by
    rw [Fzs] at h
    rw [h]
    exact k
  | d :: ds, es, vs, us, h, k => by
    rw [Fzs] at h
    obtain ⟨x, xs, rfl, q, r⟩ := h
    rw [List.cons_append, Fzs]
    exact ⟨x, xs ++ us, rfl, q, Fzs.app r k⟩
theorem Fzs.one {d : D} {v : V} (h : Fz K G d v) : Fzs K G [d] [v] := by
  rw [Fzs]
  exact ⟨v, [], rfl, h, by rw [Fzs]⟩
theorem Fzs.take : ∀ {ds : List D} {vs : List V} (n : Nat), Fzs K G ds vs → Fzs K G (ds.take n) (vs.take n)
  | ds, vs, 0, h => by
    simp only [List.take_zero]
    rw [Fzs]
  | [], vs, n + 1, h => by
    rw [Fzs] at h
    rw [h, List.take_nil, List.take_nil, Fzs]
  | d :: ds, vs, n + 1, h => by
    rw [Fzs] at h
    obtain ⟨x, xs, rfl, q, r⟩ := h
    rw [List.take_succ_cons, List.take_succ_cons, Fzs]
    exact ⟨x, _, rfl, q, Fzs.take n r⟩
theorem Fzs.drop : ∀ {ds : List D} {vs : List V} (n : Nat), Fzs K G ds vs → Fzs K G (ds.drop n) (vs.drop n)
  | ds, vs, 0, h => by simpa only [List.drop_zero] using h
  | [], vs, n + 1, h => by
    rw [Fzs] at h
    rw [h, List.drop_nil, List.drop_nil, Fzs]
  | d :: ds, vs, n + 1, h => by
    rw [Fzs] at h
    obtain ⟨x, xs, rfl, q, r⟩ := h
    rw [List.drop_succ_cons, List.drop_succ_cons]
    exact Fzs.drop n r
theorem Fz.int {i : Int} {v : V} (h : Fz K G (.int i) v) : v = .int i := by rwa [Fz] at h
theorem Fz.bl {b : Bool} {v : V} (h : Fz K G (.bl b) v) : v = .bl b := by rwa [Fz] at h
theorem Fz.str {s : Str} {v : V} (h : Fz K G (.str s) v) : v = .str s := by rwa [Fz] at h
theorem Fz.non {v : V} (h : Fz K G .non v) : v = .non := by rwa [Fz] at h
end

/-! ### the invariant -/
/-- a call: the written part; at its entry the data G0 and the heap H0 -/
structure Cl where
  K : PySem.W.Frag
  G0 : Hp
  H0 : Hp
  /-- the error that is being handled: where it stands, its class, its dict, what it is -/
  hx : Option (Addr × Value × Option Addr × Exc) := none
/-- what stands for an error -/
def ExF (K : PySem.W.Frag) (G H : Hp) (x : Exc) (d : Option Addr) : Prop := (x.ns = [] ∧ x.ds = [] ∧ d = none) ∨
  ∃ dd vs, d = some dd ∧ H dd = some (.xd (x.ns.zip vs).reverse) ∧ x.ns.length = vs.length ∧ Fzs K G x.ds vs
def HxOk (c : Cl) (G H : Hp) : Prop := match c.hx with
  | none => True
  | some (_, cls, d, x) => cls = .ref (He.ga c.K x.c) ∧ ExF c.K G H x d
def RepS (c : Cl) (G H : Hp) : Sl → Option V → List Addr → Prop
  | .un, _, fp => fp = []
  | .o o, v, fp => ∃ x, v = some x ∧ Ow c.K G H o x fp
  | .bo ds, v, fp => fp = [] ∧ ∃ a vs, v = some (.ref a) ∧ SqL c.K c.H0 a vs ∧ Fzs c.K c.G0 ds vs
  | .ex x, v, fp => fp = [] ∧ ∃ a cls d, v = some (.ref a) ∧ c.hx = some (a, cls, d, x)
def RepE (c : Cl) (G H : Hp) : PV.Env → L2.St → List Addr → Prop
  | [], [], fp => fp = []
  | s :: e, v :: σ, fp => ∃ f1 f2, fp = f1 ++ f2 ∧ RepS c G H s v f1 ∧ RepE c G H e σ f2
  | _, _, _ => False
def RepT (c : Cl) (G H : Hp) : List O → List V → List Addr → Prop
  | [], [], fp => fp = []
  | o :: os, v :: vs, fp => ∃ f1 f2, fp = f1 ++ f2 ∧ Ow c.K G H o v f1 ∧ RepT c G H os vs f2
  | _, _, _ => False
structure Rel (c : Cl) (G H : Hp) (e : PV.Env) (σ : L2.St) (ts : List O) (vs : List V) : Prop where
  h0 : Ext c.H0 H
  g : Ext G H
  g0 : Ext c.G0 G
  fr : ∀ a u, G a = some u → c.G0 a = none → c.H0 a = none
  hx : HxOk c G H
  rep : ∃ fe ft, RepE c G H e σ fe ∧ RepT c G H ts vs ft ∧ (fe ++ ft).Nodup ∧ ∀ a ∈ fe ++ ft, c.H0 a = none ∧ G a = none
theorem ExF.mono {K : PySem.W.Frag} {G G' H H' : Hp} {x : Exc} {d : Option Addr} (h : ExF K G H x d) (l : Ext G G') (k : ∀ a fs, H a = some (.xd fs) → H' a = some (.xd fs)) : ExF K G' H' x d := by
  rcases h with h | ⟨dd, vs, e, h1, h2, h3⟩
  · exact .inl h
  · exact .inr ⟨dd, vs, e, k _ _ h1, h2, Fzs.mono l _ _ h3⟩
theorem HxOk.mono {c : Cl} {G G' H H' : Hp} (h : HxOk c G H) (l : Ext G G') (k : ∀ a fs, H a = some (.xd fs) → H' a = some (.xd fs)) : HxOk c G' H' := by
  unfold HxOk at h ⊢
  split
  · trivial
  · rename_i a cls d x e
    rw [e] at h
    exact ⟨h.1, h.2.mono l k⟩
end PV

namespace PV
open PySem PySem.Spec PyProof.Rows L2
variable {c : Cl} {G G' H H' : Hp} {e : PV.Env} {σ : L2.St} {ts : List O} {vs : List V} {o : O} {v : V} {d : D}

/-! ### slots -/
theorem RepS.mono (l : Ext G G') {s : Sl} {v : Option V} {fp : List Addr} (h : RepS c G H s v fp) (k : ∀ a ∈ fp, H' a = H a) : RepS c G' H' s v fp := by
  cases s with
  | un => exact h
  | o o =>
    obtain ⟨x, e, r⟩ := h
    exact ⟨x, e, Ow.mono l o x fp r k⟩
  | bo ds => exact h
  | ex x => exact h
theorem RepE.mono (l : Ext G G') : ∀ {e : PV.Env} {σ : L2.St} {fp : List Addr}, RepE c G H e σ fp → (∀ a ∈ fp, H' a = H a) → RepE c G' H' e σ fp
  | [], [], fp, h, k => h
  | s :: e, v :: σ, fp, h, k => by
    obtain ⟨f1, f2, rfl, q, r⟩ := h
    exact ⟨f1, f2, rfl, q.mono l fun a ha => k a (List.mem_append_left _ ha), RepE.mono l r fun a ha => k a (List.mem_append_right _ ha)⟩
  | [], _ :: _, _, h, _ => h.elim
  | _ :: _, [], _, h, _ => h.elim
theorem RepT.mono (l : Ext G G') : ∀ {ts : List O} {vs : List V} {fp : List Addr}, RepT c G H ts vs fp → (∀ a ∈ fp, H' a = H a) → RepT c G' H' ts vs fp
  | [], [], fp, h, k => h
  | s :: e, v :: σ, fp, h, k => by
    obtain ⟨f1, f2, rfl, q, r⟩ := h
    exact ⟨f1, f2, rfl, Ow.mono l _ _ _ q fun a ha => k a (List.mem_append_left _ ha), RepT.mono l r fun a ha => k a (List.mem_append_right _ ha)⟩
  | [], _ :: _, _, h, _ => h.elim
  | _ :: _, [], _, h, _ => h.elim
theorem RepS.there {s : Sl} {v : Option V} {fp : List Addr} (h : RepS c G H s v fp) : ∀ a ∈ fp, ∃ u, H a = some u := by
  cases s with
  | un =>
    intro a ha
    rw [show fp = [] from h] at ha
    cases ha
  | o o =>
    obtain ⟨x, e, r⟩ := h
    exact Ow.there o x fp r
  | bo ds =>
    intro a ha
    rw [h.1] at ha
    cases ha
  | ex x =>
    intro a ha
    rw [h.1] at ha
    cases ha
theorem RepE.there : ∀ {e : PV.Env} {σ : L2.St} {fp : List Addr}, RepE c G H e σ fp → ∀ a ∈ fp, ∃ u, H a = some u
  | [], [], fp, h, a, ha => by
    rw [show fp = [] from h] at ha
    cases ha
  | s :: e, v :: σ, fp, h, a, ha => by
    obtain ⟨f1, f2, rfl, q, r⟩ := h
    rcases List.mem_append.mp ha with ha | ha
    · exact q.there a ha
    · exact RepE.there r a ha
  | [], _ :: _, _, h, _, _ => h.elim
  | _ :: _, [], _, h, _, _ => h.elim
theorem RepT.there : ∀ {ts : List O} {vs : List V} {fp : List Addr}, RepT c G H ts vs fp → ∀ a ∈ fp, ∃ u, H a = some u
  | [], [], fp, h, a, ha => by
    rw [show fp = [] from h] at ha
    cases ha
  | s :: e, v :: σ, fp, h, a, ha => by
    obtain ⟨f1, f2, rfl, q, r⟩ := h
    rcases List.mem_append.mp ha with ha | ha
    · exact Ow.there _ _ _ q a ha
    · exact RepT.there r a ha
  | [], _ :: _, _, h, _, _ => h.elim
  | _ :: _, [], _, h, _, _ => h.elim
theorem RepE.len : ∀ {e : PV.Env} {σ : L2.St} {fp : List Addr}, RepE c G H e σ fp → e.length = σ.length
  | [], [], fp, h => rfl
  | s :: e, v :: σ, fp, h => by
    obtain ⟨f1, f2, rfl, q, r⟩ := h
    rw [List.length_cons, List.length_cons, RepE.len r]
  | [], _ :: _, _, h => h.elim
  | _ :: _, [], _, h => h.elim
/-- the slot i, and what puts another thing there -/
theorem RepE.at : ∀ {e : PV.Env} {σ : L2.St} {fp : List Addr} {i : Nat} {s : Sl}, RepE c G H e σ fp → e[i]? = some s → ∃ v f0 f1 f2, σ[i]? = some v ∧ fp = f0 ++ f1 ++ f2 ∧ RepS c G H s v f1 ∧
    ∀ (s' : Sl) (v' : Option V) (f' : List Addr), RepS c G H s' v' f' → RepE c G H (e.set i s') (σ.set i v') (f0 ++ f' ++ f2)
  | [], [], fp, i, s, h, k => by simp at k
  | s :: e, v :: σ, fp, 0, s', h, k => by
    obtain ⟨f1, f2, rfl, q, r⟩ := h
    simp at k
    subst k
    exact ⟨v, [], f1, f2, by simp, by simp, q, fun s' v' f' q' => ⟨f', f2, by simp, q', r⟩⟩
  | s :: e, v :: σ, fp, i + 1, s', h, k => by
    obtain ⟨f1, f2, rfl, q, r⟩ := h
    obtain ⟨v', g0, g1, g2, h1, h2, h3, h4⟩ := RepE.at (i := i) r (by simpa using k)
    refine ⟨v', f1 ++ g0, g1, g2, by simpa using h1, by rw [h2]; simp, h3, fun s'' v'' f' q' => ?_⟩
    exact ⟨f1, g0 ++ f' ++ g2, by simp, q, h4 s'' v'' f' q'⟩
  | [], _ :: _, _, _, _, h, _ => h.elim
  | _ :: _, [], _, _, _, h, _ => h.elim

/-! ### the invariant -/
/-- the heap grows -/
theorem Rel.grow (R : Rel c G H e σ ts vs) (hH : Ext H H') (hG : Ext G G') (hg : Ext G' H') (hf : ∀ a u, G' a = some u → G a = none → H a = none) : Rel c G' H' e σ ts vs := by
  obtain ⟨fe, ft, h1, h2, nd, out⟩ := R.rep
  have same : ∀ a, (∃ u, H a = some u) → H' a = H a := fun a ⟨u, e⟩ => by rw [e, hH a u e]
  have k1 := h1.there
  have k2 := h2.there
  refine ⟨R.h0.trans hH, hg, R.g0.trans hG, fun a u h n => ?_, R.hx.mono hG fun a fs z => hH a _ z, fe, ft, h1.mono hG fun a ha => same a (k1 a ha), h2.mono hG fun a ha => same a (k2 a ha), nd, fun a ha => ⟨(out a ha).1, ?_⟩⟩
  · cases q : G a with
    | some u' => exact R.fr a u' q n
    | none =>
      have z := hf a u h q
      cases y : c.H0 a with
      | none => rfl
      | some w =>
        rw [R.h0 a w y] at z
        cases z
  · cases q : G' a with
    | none => rfl
    | some u =>
      have z := hf a u q (out a ha).2
      obtain ⟨w, hw⟩ := (List.mem_append.mp ha).elim (k1 a) (k2 a)
      rw [hw] at z
      cases z
theorem Rel.push (R : Rel c G H e σ ts vs) (h : Fz c.K G d v) : Rel c G H e σ (.fz d :: ts) (v :: vs) := by
  obtain ⟨fe, ft, h1, h2, nd, out⟩ := R.rep
  exact ⟨R.h0, R.g, R.g0, R.fr, R.hx, fe, ft, h1, ⟨[], ft, rfl, Ow.fz h, h2⟩, nd, out⟩
theorem Rel.pop (R : Rel c G H e σ (o :: ts) (v :: vs)) : Rel c G H e σ ts vs := by
  obtain ⟨fe, ft, h1, ⟨f1, f2, rfl, q, r⟩, nd, out⟩ := R.rep
  refine ⟨R.h0, R.g, R.g0, R.fr, R.hx, fe, f2, h1, r, nd.sublist (List.Sublist.append_left (List.sublist_append_right f1 f2) fe), fun a ha => out a ?_⟩
  rcases List.mem_append.mp ha with ha | ha
  · exact List.mem_append_left _ ha
  · exact List.mem_append_right _ (List.mem_append_right _ ha)
theorem Rel.fz (R : Rel c G H e σ (.fz d :: ts) (v :: vs)) : Fz c.K G d v := by
  obtain ⟨fe, ft, h1, ⟨f1, f2, rfl, q, r⟩, nd, out⟩ := R.rep
  rw [Ow] at q
  exact q.2
theorem Rel.tlen (R : Rel c G H e σ ts vs) : ts.length = vs.length := by
  obtain ⟨fe, ft, h1, h2, nd, out⟩ := R.rep
  clear R h1 nd out
  have : ∀ {ts : List O} {vs : List V} {ft : List Addr}, RepT c G H ts vs ft → ts.length = vs.length := by
    intro ts
    induction ts with
    | nil =>
      intro vs ft h
      cases vs with
      | nil => rfl
      | cons _ _ => exact h.elim
    | cons o ts ih =>
      intro vs ft h
      cases vs with
      | nil => exact h.elim
      | cons v vs =>
        obtain ⟨f1, f2, rfl, q, r⟩ := h
        rw [List.length_cons, List.length_cons, ih r]
  exact this h2
/-- a new tracked object, data -/
theorem Rel.laid (R : Rel c G H e σ ts vs) {p : Addr} (u : HO) (hp : H p = none) : Rel c (upd G p u) (upd H p u) e σ ts vs := by
  have gp : G p = none := by
    cases q : G p with
    | none => rfl
    | some w =>
      rw [R.g p w q] at hp
      cases hp
  refine R.grow (fun a w h => by rw [upd_ne (ne_of_none h hp)]; exact h) (fun a w h => by rw [upd_ne (ne_of_none h gp)]; exact h) (fun a w h => ?_) (fun a w h n => ?_)
  · by_cases ha : a = p
    · rw [ha, upd_same] at h ⊢
      exact h
    · rw [upd_ne ha] at h ⊢
      exact R.g a w h
  · by_cases ha : a = p
    · rw [ha]
      exact hp
    · rw [upd_ne ha, n] at h
      cases h
theorem Ext.new {p : Addr} {u : HO} (hp : H p = none) : Ext H (upd H p u) := fun a w h => by rw [upd_ne (ne_of_none h hp)]; exact h
/-- a new owned thing -/
theorem Rel.pushO (R : Rel c G H e σ ts vs) (hH : Ext H H') {fp : List Addr} (ho : Ow c.K G H' o v fp) (nd : fp.Nodup) (hf : ∀ a ∈ fp, H a = none) : Rel c G H' e σ (o :: ts) (v :: vs) := by
  obtain ⟨fe, ft, h1, h2, n, out⟩ := R.rep
  have k1 := h1.there
  have k2 := h2.there
  have same : ∀ a, (∃ u, H a = some u) → H' a = H a := fun a ⟨u, e⟩ => by rw [e, hH a u e]
  have ap : ∀ a ∈ fe ++ ft, a ∉ fp := fun a ha hb => by
    obtain ⟨w, hw⟩ := (List.mem_append.mp ha).elim (k1 a) (k2 a)
    rw [hf a hb] at hw
    cases hw
  have none_of : ∀ (J : Hp) a, Ext J H → H a = none → J a = none := fun J a x z => by
    cases q : J a with
    | none => rfl
    | some w =>
      rw [x a w q] at z
      cases z
  refine ⟨R.h0.trans hH, R.g.trans hH, R.g0, R.fr, R.hx.mono (Ext.refl G) fun a fs z => hH a _ z, fe, fp ++ ft, h1.mono (Ext.refl G) fun a ha => same a (k1 a ha), ⟨fp, ft, rfl, ho, h2.mono (Ext.refl G) fun a ha => same a (k2 a ha)⟩, ?_, fun a ha => ?_⟩
  · obtain ⟨n1, n2, n3⟩ := List.nodup_append.mp n
    refine List.nodup_append.mpr ⟨n1, List.nodup_append.mpr ⟨nd, n2, fun a ha b hb z => ?_⟩, fun a ha b hb z => ?_⟩
    · subst z
      exact ap a (List.mem_append_right _ hb) ha
    · subst z
      rcases List.mem_append.mp hb with hb | hb
      · exact ap a (List.mem_append_left _ ha) hb
      · exact n3 a ha a hb rfl
  · rcases List.mem_append.mp ha with ha | ha
    · exact out a (List.mem_append_left _ ha)
    · rcases List.mem_append.mp ha with ha | ha
      · exact ⟨none_of _ a R.h0 (hf a ha), none_of _ a R.g (hf a ha)⟩
      · exact out a (List.mem_append_right _ ha)
/-- a new list, owned -/
theorem Rel.laidL (R : Rel c G H e σ ts vs) {p : Addr} {xs : List V} {ds : List D} (hp : H p = none) (h : Fzs c.K G ds xs) : Rel c G (upd H p (.lst xs)) e σ (.lst (ds.map O.fz) :: ts) (.ref p :: vs) := by
  refine R.pushO (Ext.new hp) (fp := [p]) ?_ (by simp) (fun a ha => by
    rw [List.mem_singleton.mp ha]
    exact hp)
  rw [Ow]
  exact ⟨p, xs, [], rfl, upd_same, Ows.fzs h, rfl⟩
/-- the top thing becomes data -/
theorem Rel.cool (R : Rel c G H e σ (o :: ts) (v :: vs)) : ∃ G', Ext G G' ∧ Rel c G' H e σ (.fz o.toD :: ts) (v :: vs) := by
  obtain ⟨fe, ft, h1, ⟨f1, f2, rfl, q, r⟩, nd, out⟩ := R.rep
  have hG : Ext G (fun a => if a ∈ f1 then H a else G a) := fun a u h => by
    have : a ∉ f1 := fun z => by
      rw [(out a (List.mem_append_right _ (List.mem_append_left _ z))).2] at h
      cases h
    show (if a ∈ f1 then H a else G a) = some u
    rw [if_neg this]
    exact h
  refine ⟨_, hG, R.h0, fun a u h => ?_, R.g0.trans hG, fun a u h n => ?_, R.hx.mono hG fun _ _ z => z, fe, f2, h1.mono hG fun _ _ => rfl, ⟨[], f2, rfl, Ow.fz (Ow.cool hG o v f1 q fun a ha => if_pos ha), r.mono hG fun _ _ => rfl⟩, ?_, fun a ha => ?_⟩
  · by_cases z : a ∈ f1
    · have h' : (if a ∈ f1 then H a else G a) = some u := h
      rw [if_pos z] at h'
      exact h'
    · have h' : (if a ∈ f1 then H a else G a) = some u := h
      rw [if_neg z] at h'
      exact R.g a u h'
  · by_cases z : a ∈ f1
    · exact (out a (List.mem_append_right _ (List.mem_append_left _ z))).1
    · have h' : (if a ∈ f1 then H a else G a) = some u := h
      rw [if_neg z] at h'
      exact R.fr a u h' n
  · exact nd.sublist (List.Sublist.append_left (List.sublist_append_right f1 f2) fe)
  · obtain ⟨n1, n2, n3⟩ := List.nodup_append.mp nd
    obtain ⟨m1, m2, m3⟩ := List.nodup_append.mp n2
    have z : a ∉ f1 := fun z => by
      rcases List.mem_append.mp ha with ha | ha
      · exact n3 a ha a (List.mem_append_left _ z) rfl
      · exact m3 a z a ha rfl
    have o1 : a ∈ fe ++ (f1 ++ f2) := by
      rcases List.mem_append.mp ha with ha | ha
      · exact List.mem_append_left _ ha
      · exact List.mem_append_right _ (List.mem_append_right _ ha)
    refine ⟨(out a o1).1, ?_⟩
    show (if a ∈ f1 then H a else G a) = none
    rw [if_neg z]
    exact (out a o1).2
/-- a slot's thing is taken out -/
theorem Rel.take (R : Rel c G H e σ ts vs) {i : Nat} (h : e[i]? = some (.o o)) : ∃ v, σ[i]? = some (some v) ∧ Rel c G H (e.set i .un) σ (o :: ts) (v :: vs) := by
  obtain ⟨fe, ft, h1, h2, nd, out⟩ := R.rep
  obtain ⟨v, f0, f1, f2, hv, rfl, ⟨x, rfl, q⟩, k⟩ := h1.at h
  have hset : σ.set i (some x) = σ := by
    apply List.ext_getElem?
    intro j
    by_cases hj : j = i
    · subst hj
      have := (List.getElem?_eq_some_iff.mp hv).1
      rw [List.getElem?_set_self this, hv]
    · rw [List.getElem?_set_ne (Ne.symm hj)]
  have k1 := k .un (some x) [] rfl
  rw [hset] at k1
  have perm : (f0 ++ f1 ++ f2 ++ ft).Perm (f0 ++ [] ++ f2 ++ (f1 ++ ft)) := by
    simp only [List.append_nil, List.append_assoc]
    refine List.Perm.append_left f0 ?_
    rw [← List.append_assoc, ← List.append_assoc]
    exact List.Perm.append_right ft List.perm_append_comm
  exact ⟨x, hv, R.h0, R.g, R.g0, R.fr, R.hx, f0 ++ [] ++ f2, f1 ++ ft, k1, ⟨f1, ft, rfl, q, h2⟩, perm.nodup nd, fun a ha => out a (perm.mem_iff.mpr ha)⟩
/-- the top thing goes into a slot -/
theorem Rel.put (R : Rel c G H e σ (o :: ts) (v :: vs)) {i : Nat} (h : i < e.length) : Rel c G H (e.set i (.o o)) (σ.set i (some v)) ts vs := by
  obtain ⟨fe, ft, h1, ⟨g1, g2, rfl, q, r⟩, nd, out⟩ := R.rep
  obtain ⟨v0, f0, f1, f2, hv, rfl, _, k⟩ := h1.at (List.getElem?_eq_getElem h)
  have k1 := k (.o o) (some v) g1 ⟨v, rfl, q⟩
  have sub : (f0 ++ g1 ++ f2 ++ g2).Perm (f0 ++ f2 ++ (g1 ++ g2)) := by
    simp only [List.append_assoc]
    refine List.Perm.append_left f0 ?_
    rw [← List.append_assoc, ← List.append_assoc]
    exact List.Perm.append_right g2 List.perm_append_comm
  have s2 : (f0 ++ f2 ++ (g1 ++ g2)).Sublist (f0 ++ f1 ++ f2 ++ (g1 ++ g2)) := by
    refine List.Sublist.append_right ?_ _
    simp only [List.append_assoc]
    exact List.Sublist.append_left (List.sublist_append_right f1 f2) f0
  exact ⟨R.h0, R.g, R.g0, R.fr, R.hx, f0 ++ g1 ++ f2, g2, k1, r, sub.symm.nodup (nd.sublist s2), fun a ha => out a (s2.subset (sub.mem_iff.mp ha))⟩
/-- a slot is forgotten -/
theorem Rel.drop (R : Rel c G H e σ ts vs) {i : Nat} (w : Option V) (h : i < e.length) : Rel c G H (e.set i .un) (σ.set i w) ts vs := by
  obtain ⟨fe, ft, h1, h2, nd, out⟩ := R.rep
  obtain ⟨v0, f0, f1, f2, hv, rfl, _, k⟩ := h1.at (List.getElem?_eq_getElem h)
  have k1 := k .un w [] rfl
  have s2 : (f0 ++ [] ++ f2 ++ ft).Sublist (f0 ++ f1 ++ f2 ++ ft) := by
    refine List.Sublist.append_right ?_ _
    simp only [List.append_assoc, List.nil_append]
    exact List.Sublist.append_left (List.sublist_append_right f1 f2) f0
  exact ⟨R.h0, R.g, R.g0, R.fr, R.hx, f0 ++ [] ++ f2, ft, k1, h2, nd.sublist s2, fun a ha => out a (s2.subset ha)⟩
/-- the top thing is changed in place -/
theorem Rel.edit (R : Rel c G H e σ (o :: ts) (v :: vs)) {os : List O} {ws : List V} (k : ∀ f1, Ow c.K G H o v f1 → f1.Nodup → (∀ a, a ∉ f1 → H' a = H a) ∧ ∃ f', RepT c G H' os ws f' ∧ f'.Nodup ∧ ∀ a ∈ f', a ∈ f1) :
    Rel c G H' e σ (os ++ ts) (ws ++ vs) := by
  obtain ⟨fe, ft, h1, ⟨f1, f2, rfl, q, r⟩, nd, out⟩ := R.rep
  obtain ⟨n1, n2, n3⟩ := List.nodup_append.mp nd
  obtain ⟨m1, m2, m3⟩ := List.nodup_append.mp n2
  obtain ⟨same, f', t', nd', sub⟩ := k f1 q m1
  have app : ∀ {as : List O} {us : List V} {f : List Addr}, RepT c G H' as us f → RepT c G H' ts vs f2 → RepT c G H' (as ++ ts) (us ++ vs) (f ++ f2) := by
    intro as
    induction as with
    | nil =>
      intro us f h h'
      cases us with
      | nil =>
        rw [show f = [] from h]
        exact h'
      | cons _ _ => exact h.elim
    | cons a as ih =>
      intro us f h h'
      cases us with
      | nil => exact h.elim
      | cons u us =>
        obtain ⟨g1, g2, rfl, y, z⟩ := h
        exact ⟨g1, g2 ++ f2, by rw [List.append_assoc], y, ih z h'⟩
  have h0' : ∀ (J : Hp), Ext J H → (∀ a ∈ f1, J a = none) → Ext J H' := fun J x y a u h => by
    have : a ∉ f1 := fun z => by
      rw [y a z] at h
      cases h
    rw [same a this]
    exact x a u h
  refine ⟨h0' _ R.h0 fun a ha => (out a (List.mem_append_right _ (List.mem_append_left _ ha))).1, h0' _ R.g fun a ha => (out a (List.mem_append_right _ (List.mem_append_left _ ha))).2, R.g0, R.fr, R.hx.mono (Ext.refl G) (fun a fs z => by
      rw [same a fun y => Ow.noxd o v f1 q a y fs z]
      exact z), fe, f' ++ f2,
    h1.mono (Ext.refl G) fun a ha => same a fun z => n3 a ha a (List.mem_append_left _ z) rfl, app t' (r.mono (Ext.refl G) fun a ha => same a fun z => m3 a z a ha rfl), ?_, fun a ha => out a ?_⟩
  · refine List.nodup_append.mpr ⟨n1, List.nodup_append.mpr ⟨nd', m2, fun a ha b hb => m3 a (sub a ha) b hb⟩, fun a ha b hb => n3 a ha b ?_⟩
    rcases List.mem_append.mp hb with hb | hb
    · exact List.mem_append_left _ (sub b hb)
    · exact List.mem_append_right _ hb
  · rcases List.mem_append.mp ha with ha | ha
    · exact List.mem_append_left _ ha
    · refine List.mem_append_right _ ?_
      rcases List.mem_append.mp ha with ha | ha
      · exact List.mem_append_left _ (sub a ha)
      · exact List.mem_append_right _ ha
theorem set_self {α : Type} {l : List α} {i : Nat} {x : α} (h : l[i]? = some x) : l.set i x = l := by
  apply List.ext_getElem?
  intro j
  by_cases hj : j = i
  · subst hj
    have := (List.getElem?_eq_some_iff.mp h).1
    rw [List.getElem?_set_self this, h]
  · rw [List.getElem?_set_ne (Ne.symm hj)]
/-- a slot's thing becomes data, and is read -/
theorem Rel.read (R : Rel c G H e σ ts vs) {i : Nat} (h : e[i]? = some (.o o)) : ∃ v G', σ[i]? = some (some v) ∧ Ext G G' ∧ Rel c G' H (e.set i (.o (.fz o.toD))) σ (.fz o.toD :: ts) (v :: vs) := by
  obtain ⟨v, hv, R1⟩ := R.take h
  obtain ⟨G', hG, R2⟩ := R1.cool
  have R3 := R2.put (i := i) (by rw [List.length_set]; exact (List.getElem?_eq_some_iff.mp h).1)
  rw [List.set_set, set_self hv] at R3
  exact ⟨v, G', hv, hG, R3.push (R2.fz)⟩
end PV

/-! Readings by value: an expression, a test, arguments, a statement of HandS keep what a function of the slots says. -/
namespace PV
open PySem PySem.Spec PyProof.Rows L2

section
variable {c : Cl} {W : WX} {σ : L2.St} {ts : List O} {vs : List V} {α β : Type}
/-- what a result leaves to be shown -/
def Out (c : Cl) (W : WX) (σ : L2.St) (ts : List O) (vs : List V) (P : α → PV.Env → Prop) : Rs α → Prop
  | .stuck => False
  | .ok a e' => P a e'
  | .exc x e' => ∀ G' H' d, Rel c G' H' e' σ ts vs → ExF c.K G' H' x d → W (.ref (He.ga c.K x.c)) d σ H'
theorem Out.push {P : α → PV.Env → Prop} {r : Rs α} {o : O} {v : V} (h : Out c W σ ts vs P r) : Out c W σ (o :: ts) (v :: vs) P r := by
  cases r with
  | stuck => exact h
  | ok a e => exact h
  | exc x e => exact fun G' H' d R => h G' H' d R.pop
theorem Out.imp {P P' : α → PV.Env → Prop} {r : Rs α} (h : Out c W σ ts vs P r) (k : ∀ a e, P a e → P' a e) : Out c W σ ts vs P' r := by
  cases r with
  | stuck => exact h
  | ok a e => exact k a e h
  | exc x e => exact h
theorem Out.bind {P : β → PV.Env → Prop} {r : Rs α} {k : α → PV.Env → Rs β} (h : Out c W σ ts vs P (r.bind k)) : Out c W σ ts vs (fun a e => Out c W σ ts vs P (k a e)) r := by
  cases r <;> exact h
end

def PO1 (c : Cl) (σ : L2.St) (ts : List O) (vs : List V) (Q : VK) : O → PV.Env → Prop := fun o e' => ∀ G' H' v, Rel c G' H' e' σ (o :: ts) (v :: vs) → Q v H'
def PB1 (c : Cl) (σ : L2.St) (ts : List O) (vs : List V) (Q : Bool → Hp → Prop) : Bool → PV.Env → Prop := fun b e' => ∀ G' H', Rel c G' H' e' σ ts vs → Q b H'
def PA1 (c : Cl) (σ : L2.St) (ts : List O) (vs : List V) (Q : List V → Hp → Prop) : List D → PV.Env → Prop := fun ds e' => ∀ G' H' us, Rel c G' H' e' σ ts vs → Fzs c.K G' ds us → Q us H'
/-- an expression's reading, a test's, an argument list's, a statement's -/
def tI (c : Cl) (W : WX) (m : Sm O) : TE := fun σ H Q => ∃ G e ts vs, Rel c G H e σ ts vs ∧ Out c W σ ts vs (PO1 c σ ts vs Q) (m e)
def tT (c : Cl) (W : WX) (m : Sm Bool) : TT := fun σ H Q => ∃ G e ts vs, Rel c G H e σ ts vs ∧ Out c W σ ts vs (PB1 c σ ts vs Q) (m e)
def tA (c : Cl) (W : WX) (m : Sm (List D)) : TA := fun σ H Q => ∃ G e ts vs, Rel c G H e σ ts vs ∧ Out c W σ ts vs (PA1 c σ ts vs Q) (m e)
def OutS (c : Cl) (W : WX) (ts : List O) (vs : List V) (D : Ends) : Rs Fl → Prop
  | .stuck => False
  | .ok .nx e' => ∀ G' H' σ', Rel c G' H' e' σ' ts vs → D.nx σ' H'
  | .ok (.rt d) e' => ∀ G' H' σ' v, Rel c G' H' e' σ' ts vs → Fz c.K G' d v → D.rt v H'
  | .ok .bk e' => ∀ G' H' σ', Rel c G' H' e' σ' ts vs → D.bk σ' H'
  | .ok .ct e' => ∀ G' H' σ', Rel c G' H' e' σ' ts vs → D.ct σ' H'
  | .exc x e' => ∀ G' H' σ' d, Rel c G' H' e' σ' ts vs → ExF c.K G' H' x d → W (.ref (He.ga c.K x.c)) d σ' H'
def tS (c : Cl) (W : WX) (m : Sm Fl) : TS := fun D σ H => ∃ G e ts vs, Rel c G H e σ ts vs ∧ OutS c W ts vs D (m e)

section
variable {X : Cx} {c : Cl} {W : WX} {G H : Hp} {e : PV.Env} {σ : L2.St} {ts : List O} {vs : List V} {α β : Type}
theorem PE.imp {ex : Expr} {t t' : TE} (P : PE X ex t) (h : ∀ σ H Q, t' σ H Q → t σ H Q) : PE X ex t' := ⟨fun pins s σ H Q I q => P.run pins s σ H Q I (h σ H Q q)⟩
theorem PT.imp {ex : Expr} {t t' : TT} (P : PT X ex t) (h : ∀ σ H Q, t' σ H Q → t σ H Q) : PT X ex t' := ⟨fun pins s σ H Q I q => P.run pins s σ H Q I (h σ H Q q)⟩
theorem PW.imp {ex : Expr} {t t' : TT} (P : PW X ex t) (h : ∀ σ H Q, t' σ H Q → t σ H Q) : PW X ex t' := ⟨fun wh pins s σ H Q I q => P.run wh pins s σ H Q I (h σ H Q q)⟩
theorem PA.imp {ex : List Expr} {t t' : TA} (P : PA X ex t) (h : ∀ σ H Q, t' σ H Q → t σ H Q) : PA X ex t' := ⟨fun pos pins s σ H Q I q => P.run pos pins s σ H Q I (h σ H Q q)⟩
theorem PS.imp {st : Stmt} {t t' : TS} (P : PS X st t) (h : ∀ D σ H, t' D σ H → t D σ H) : PS X st t' := ⟨fun pins s σ H D I q => P.run pins s σ H D I (h D σ H q)⟩
theorem PSs.imp {st : List Stmt} {t t' : TS} (P : PSs X st t) (h : ∀ D σ H, t' D σ H → t D σ H) : PSs X st t' := ⟨fun pins s σ H D I q => P.run pins s σ H D I (h D σ H q)⟩

/-- first m, then k -/
theorem tI_seq {m : Sm O} {k : O → PV.Env → Rs β} {P : β → PV.Env → Prop} {Q' : VK} (R : Rel c G H e σ ts vs) (h : Out c W σ ts vs P ((m e).bind k)) (hk : ∀ G1 H1 v o e1, Rel c G1 H1 e1 σ (o :: ts) (v :: vs) → Out c W σ ts vs P (k o e1) → Q' v H1) : tI c W m σ H Q' :=
  ⟨G, e, ts, vs, R, h.bind.imp fun o e1 q G1 H1 v R1 => hk G1 H1 v o e1 R1 q⟩
theorem tT_seq {m : Sm Bool} {k : Bool → PV.Env → Rs β} {P : β → PV.Env → Prop} {Q' : Bool → Hp → Prop} (R : Rel c G H e σ ts vs) (h : Out c W σ ts vs P ((m e).bind k)) (hk : ∀ G1 H1 b e1, Rel c G1 H1 e1 σ ts vs → Out c W σ ts vs P (k b e1) → Q' b H1) : tT c W m σ H Q' :=
  ⟨G, e, ts, vs, R, h.bind.imp fun o e1 q G1 H1 R1 => hk G1 H1 o e1 R1 q⟩
theorem tA_seq {m : Sm (List D)} {k : List D → PV.Env → Rs β} {P : β → PV.Env → Prop} {Q' : List V → Hp → Prop} (R : Rel c G H e σ ts vs) (h : Out c W σ ts vs P ((m e).bind k)) (hk : ∀ G1 H1 us ds e1, Rel c G1 H1 e1 σ ts vs → Fzs c.K G1 ds us → Out c W σ ts vs P (k ds e1) → Q' us H1) : tA c W m σ H Q' :=
  ⟨G, e, ts, vs, R, h.bind.imp fun ds e1 q G1 H1 us R1 f => hk G1 H1 us ds e1 R1 f q⟩

/-! ### names, constants -/
def sVar (i : Nat) : Sm O := fun e => match e[i]? with
  | some (.o o) => .ok (.fz o.toD) (e.set i (.o (.fz o.toD)))
  | _ => .stuck
def sC (d : D) : Sm O := fun e => .ok (.fz d) e
theorem qe_var (i : Nat) {x : Str} {pos : Pos} (hN : X.N[i]? = some x := by rfl) (hv : Vis X.env.scope x := by first | exact Or.inl rfl | exact Or.inr (Or.inl rfl) | exact Or.inr (Or.inr rfl)) (hd : (x == ("__debug__" : Str)) = false := by decide)
    (hcd : (x == ("__classdict__" : Str)) = false := by decide) : PE X (.Name x pos) (tI c W (sVar i)) := PE.imp (pe_var hN hv hd hcd) fun σ H Q ⟨G, e, ts, vs, R, h⟩ => by
  unfold sVar at h
  split at h
  · rename_i o ho
    obtain ⟨v, G', hv, _, R'⟩ := R.read ho
    exact ⟨v, hv, h G' H v R'⟩
  · exact h.elim
theorem tC_of {d : D} {v : V} (hv : ∀ K G, Fz K G d v) : ∀ σ H Q, tI c W (sC d) σ H Q → tC v σ H Q := fun σ H Q ⟨G, e, ts, vs, R, h⟩ => h G H v (R.push (hv _ _))
theorem qe_int {i : Int} {j pos} : PE X (.Constant (.int i) j pos) (tI c W (sC (.int i))) := PE.imp pe_int (tC_of fun K G => by rw [Fz])
theorem qe_bl {b : Bool} {j pos} : PE X (.Constant (.bool b) j pos) (tI c W (sC (.bl b))) := PE.imp pe_bl (tC_of fun K G => by rw [Fz])
theorem qe_non {j pos} : PE X (.Constant .none j pos) (tI c W (sC .non)) := PE.imp pe_non (tC_of fun K G => by rw [Fz])
theorem qe_str {s : Str} {j pos} : PE X (.Constant (.str s) j pos) (tI c W (sC (.str s))) := PE.imp pe_str (tC_of fun K G => by rw [Fz])
/-- a module's constant -/
theorem qe_glob {x : Str} {v : V} {u : Value} {d : D} {pos : Pos} (hg : Gl X x) (hm : X.mg x = some u) (r : RelV v u) (hv : ∀ G, Fz c.K G d v) (hd : (x == ("__debug__" : Str)) = false := by decide) : PE X (.Name x pos) (tI c W (sC d)) :=
  PE.imp (pe_glob hg hm r hd) fun σ H Q ⟨G, e, ts, vs, R, h⟩ => h G H v (R.push (hv _))

/-! ### two operands -/
/-- m, its value as data -/
def sD (m : Sm O) : Sm D := fun e => (m e).bind fun o e' => .ok o.toD e'
def sBin (op : D → D → Option O) (a b : Sm O) : Sm O := fun e => (a e).bind fun x e1 => (b e1).bind fun y e2 => match op x.toD y.toD with
  | some z => .ok z e2
  | none => .stuck
def OpS (c : Cl) (op : D → D → Option O) (r : R2) : Prop := ∀ (G H : Hp) (e : PV.Env) (σ : L2.St) (ts : List O) (vs : List V) (dx dy : D) (z : O) (x y : V) (Q : VK),
  Rel c G H e σ ts vs → Fz c.K G dx x → Fz c.K G dy y → op dx dy = some z → (∀ G' H' v, Rel c G' H' e σ (z :: ts) (v :: vs) → Q v H') → r x y H Q
theorem Rel.cool1 {o : O} {v : V} (R : Rel c G H e σ (o :: ts) (v :: vs)) : ∃ G', Ext G G' ∧ Rel c G' H e σ ts vs ∧ Fz c.K G' o.toD v := by
  obtain ⟨G', hG, R'⟩ := R.cool
  exact ⟨G', hG, R'.pop, R'.fz⟩
/-- the top two -/
theorem Rel.cool2 {o p : O} {v w : V} (R : Rel c G H e σ (o :: .fz p.toD :: ts) (v :: w :: vs)) : ∃ G', Rel c G' H e σ ts vs ∧ Fz c.K G' o.toD v ∧ Fz c.K G' p.toD w := by
  obtain ⟨G', hG, R', f⟩ := R.cool1
  exact ⟨G', R'.pop, f, R'.fz⟩
theorem tI_bin {op : D → D → Option O} {r : R2} {ma mb : Sm O} (hr : OpS c op r) : ∀ σ H Q, tI c W (sBin op ma mb) σ H Q → tOp r (tI c W ma) (tI c W mb) σ H Q := fun σ H Q ⟨G, e, ts, vs, R, h⟩ =>
  tI_seq R h fun G1 H1 x ox e1 R1 h1 => by
    obtain ⟨G1', _, R1'⟩ := R1.cool
    refine tI_seq R1' h1.push fun G2 H2 y oy e2 R2 h2 => ?_
    obtain ⟨G3, R3, fy, fx⟩ := R2.cool2
    cases hz : op ox.toD oy.toD with
    | none =>
      simp only [hz] at h2
      exact h2.elim
    | some z =>
      simp only [hz] at h2
      exact hr G3 H2 e2 σ ts vs _ _ z x y Q R3 fx fy hz h2
theorem qe_bin {bop : Operator} {op : D → D → Option O} {r : R2} {a b : Expr} {ma mb : Sm O} {pos : Pos} (ho : OpR X (binaryOp bop) r) (hr : OpS c op r) (ha : PE X a (tI c W ma)) (hb : PE X b (tI c W mb)) : PE X (.BinOp a bop b pos) (tI c W (sBin op ma mb)) :=
  PE.imp (pe_op ho ha hb) (tI_bin hr)
theorem qe_cmp {cop : CmpOp} {op : D → D → Option O} {r : R2} {a b : Expr} {ma mb : Sm O} {pos : Pos} (ho : OpR X (compareOp cop) r) (hr : OpS c op r) (ha : PE X a (tI c W ma)) (hb : PE X b (tI c W mb)) (hm : behindInMarks cop b = false) : PE X (.Compare a [cop] [b] pos) (tI c W (sBin op ma mb)) :=
  PE.imp (pe_cmpR ho ha hb hm) (tI_bin hr)

theorem OpS.or {op op' : D → D → Option O} {r r' : R2} (h : OpS c op r) (h' : OpS c op' r') : OpS c (fun x y => match op x y with | some z => some z | none => op' x y) (fun x y H Q => r x y H Q ∨ r' x y H Q) := by
  intro G H e σ ts vs dx dy z x y Q R fx fy hz q
  cases h1 : op dx dy with
  | some z' =>
    simp only [h1] at hz
    cases hz
    exact .inl (h G H e σ ts vs dx dy _ x y Q R fx fy h1 q)
  | none =>
    simp only [h1] at hz
    exact .inr (h' G H e σ ts vs dx dy z x y Q R fx fy hz q)

/-! ### operators on ints -/
def iop (C : Int → Int → Bool) (g : Int → Int → D) : D → D → Option O
  | .int i, .int j => if C i j then some (.fz (g i j)) else none
  | _, _ => none
theorem iop_some {C : Int → Int → Bool} {g : Int → Int → D} {dx dy : D} {z : O} (h : iop C g dx dy = some z) : ∃ i j, dx = .int i ∧ dy = .int j ∧ C i j = true ∧ z = .fz (g i j) := by
  unfold iop at h
  split at h
  · rename_i i j
    split at h
    · rename_i hc
      exact ⟨i, j, rfl, rfl, hc, (Option.some.inj h).symm⟩
    · cases h
  · cases h
theorem ops_I {P : Int → Int → Prop} {C : Int → Int → Bool} {g : Int → Int → D} {gv : Int → Int → V} (hP : ∀ i j, C i j = true → P i j) (hg : ∀ K G i j, Fz K G (g i j) (gv i j)) : OpS c (iop C g) (rI P gv) := by
  intro G H e σ ts vs dx dy z x y Q R fx fy hz q
  obtain ⟨i, j, rfl, rfl, hc, rfl⟩ := iop_some hz
  exact ⟨i, j, fx.int, fy.int, hP i j hc, q G H _ (R.push (hg _ _ _ _))⟩
theorem ops_I0 {g : Int → Int → D} {gv : Int → Int → V} (hg : ∀ K G i j, Fz K G (g i j) (gv i j)) : OpS c (iop (fun _ _ => true) g) (rI0 gv) := by
  intro G H e σ ts vs dx dy z x y Q R fx fy hz q
  obtain ⟨i, j, rfl, rfl, hc, rfl⟩ := iop_some hz
  exact ⟨i, j, fx.int, fy.int, q G H _ (R.push (hg _ _ _ _))⟩
theorem fzI {K : PySem.W.Frag} {G : Hp} {i : Int} : Fz K G (.int i) (.int i) := by rw [Fz]
theorem fzB {K : PySem.W.Frag} {G : Hp} {b : Bool} : Fz K G (.bl b) (.bl b) := by rw [Fz]
theorem fzS {K : PySem.W.Frag} {G : Hp} {s : Str} : Fz K G (.str s) (.str s) := by rw [Fz]
theorem fzN {K : PySem.W.Frag} {G : Hp} : Fz K G .non .non := by rw [Fz]
def mulC (i j : Int) : Bool := decide (i.natAbs.log2 + j.natAbs.log2 < 1000000)
def divC (_ j : Int) : Bool := decide (0 < j ∧ j.natAbs.log2 < 9000)
def modC (_ j : Int) : Bool := decide (0 < j)
def powC (i j : Int) : Bool := decide (0 ≤ j ∧ j ≤ 1000000 ∧ i.natAbs < 2 ^ 64)
def iSub : D → D → Option O := iop (fun _ _ => true) fun i j => .int (i - j)
def iMul : D → D → Option O := iop mulC fun i j => .int (i * j)
def iFdiv : D → D → Option O := iop divC fun i j => .int (i / j)
def iMod : D → D → Option O := iop modC fun i j => .int (i % j)
def iPow : D → D → Option O := iop powC fun i j => .int (i ^ j.toNat)
def iLt : D → D → Option O := iop (fun _ _ => true) fun i j => .bl (decide (i < j))
def iLe : D → D → Option O := iop (fun _ _ => true) fun i j => .bl (decide (i ≤ j))
def iGt : D → D → Option O := iop (fun _ _ => true) fun i j => .bl (decide (j < i))
def iGe : D → D → Option O := iop (fun _ _ => true) fun i j => .bl (decide (j ≤ i))
def iAdd : D → D → Option O := iop (fun _ _ => true) fun i j => .int (i + j)
def sAddS : D → D → Option O
  | .str s, .str t => if s.length + t.length ≤ sizeLine then some (.fz (.str (s ++ t))) else none
  | _, _ => none
theorem ops_addS : OpS c sAddS (fun x y H Q => ∃ i j, x = .str i ∧ y = .str j ∧ i.length + j.length ≤ sizeLine ∧ Q (.str (i ++ j)) H) := by
  intro G H e σ ts vs dx dy z x y Q R fx fy hz q
  unfold sAddS at hz
  split at hz
  · rename_i s t
    split at hz
    · rename_i hl
      cases hz
      exact ⟨s, t, fx.str, fy.str, hl, q G H _ (R.push fzS)⟩
    · cases hz
  · cases hz
/-- lists: a new one -/
def lAdd : D → D → Option O
  | .lst a, .lst b => if a.length + b.length ≤ sizeLine then some (.lst ((a ++ b).map O.fz)) else none
  | _, _ => none
theorem ops_cat : OpS c lAdd rCat := by
  intro G H e σ ts vs dx dy z x y Q R fx fy hz q
  unfold lAdd at hz
  split at hz
  · rename_i a b
    split at hz
    · rename_i hl
      cases hz
      rw [Fz] at fx fy
      obtain ⟨p1, us, rfl, h1, f1⟩ := fx
      obtain ⟨p2, ws, rfl, h2, f2⟩ := fy
      refine ⟨p1, p2, us, ws, rfl, rfl, R.g _ _ h1, R.g _ _ h2, ?_, fun p hp => q _ _ _ (R.laidL hp (f1.app f2))⟩
      have := f1.len
      have := f2.len
      first | omega | (rw [List.length_append]; omega)
    · cases hz
  · cases hz
def pAdd : D → D → Option O := fun x y => match (match iAdd x y with | some z => some z | none => sAddS x y) with | some z => some z | none => lAdd x y
theorem op_pAdd : OpR X (binaryOp .Add) (fun x y H Q => (rI0 (fun i j => .int (i + j)) x y H Q ∨ (∃ i j, x = .str i ∧ y = .str j ∧ i.length + j.length ≤ sizeLine ∧ Q (.str (i ++ j)) H)) ∨ rCat x y H Q) := (op_add.or op_add_str).or op_cat
theorem qe_add {a b : Expr} {ma mb : Sm O} {pos : Pos} (ha : PE X a (tI c W ma)) (hb : PE X b (tI c W mb)) : PE X (.BinOp a .Add b pos) (tI c W (sBin pAdd ma mb)) :=
  qe_bin op_pAdd (((ops_I0 fun _ _ _ _ => fzI).or ops_addS).or ops_cat) ha hb
theorem qe_sub {a b : Expr} {ma mb : Sm O} {pos : Pos} (ha : PE X a (tI c W ma)) (hb : PE X b (tI c W mb)) : PE X (.BinOp a .Sub b pos) (tI c W (sBin iSub ma mb)) := qe_bin op_sub (ops_I0 fun _ _ _ _ => fzI) ha hb
theorem qe_mul {a b : Expr} {ma mb : Sm O} {pos : Pos} (ha : PE X a (tI c W ma)) (hb : PE X b (tI c W mb)) : PE X (.BinOp a .Mult b pos) (tI c W (sBin iMul ma mb)) := qe_bin op_mulW (ops_I (fun i j h => (of_decide_eq_true h : i.natAbs.log2 + j.natAbs.log2 < 1000000)) fun _ _ _ _ => fzI) ha hb
theorem qe_fdiv {a b : Expr} {ma mb : Sm O} {pos : Pos} (ha : PE X a (tI c W ma)) (hb : PE X b (tI c W mb)) : PE X (.BinOp a .FloorDiv b pos) (tI c W (sBin iFdiv ma mb)) := qe_bin op_fdivW (ops_I (fun i j h => (of_decide_eq_true h : 0 < j ∧ j.natAbs.log2 < 9000)) fun _ _ _ _ => fzI) ha hb
theorem qe_mod {a b : Expr} {ma mb : Sm O} {pos : Pos} (ha : PE X a (tI c W ma)) (hb : PE X b (tI c W mb)) : PE X (.BinOp a .Mod b pos) (tI c W (sBin iMod ma mb)) := qe_bin op_mod (ops_I (fun i j h => (of_decide_eq_true h : 0 < j)) fun _ _ _ _ => fzI) ha hb
theorem qe_pow {a b : Expr} {ma mb : Sm O} {pos : Pos} (ha : PE X a (tI c W ma)) (hb : PE X b (tI c W mb)) : PE X (.BinOp a .Pow b pos) (tI c W (sBin iPow ma mb)) := qe_bin op_pow (ops_I (fun i j h => (of_decide_eq_true h : 0 ≤ j ∧ j ≤ 1000000 ∧ i.natAbs < 2 ^ 64)) fun _ _ _ _ => fzI) ha hb
theorem qe_lt {a b : Expr} {ma mb : Sm O} {pos : Pos} (ha : PE X a (tI c W ma)) (hb : PE X b (tI c W mb)) : PE X (.Compare a [.Lt] [b] pos) (tI c W (sBin iLt ma mb)) := qe_cmp op_lt (ops_I0 fun _ _ _ _ => fzB) ha hb (nomark _)
theorem qe_le {a b : Expr} {ma mb : Sm O} {pos : Pos} (ha : PE X a (tI c W ma)) (hb : PE X b (tI c W mb)) : PE X (.Compare a [.LtE] [b] pos) (tI c W (sBin iLe ma mb)) := qe_cmp op_le (ops_I0 fun _ _ _ _ => fzB) ha hb (nomark _)
theorem qe_gt {a b : Expr} {ma mb : Sm O} {pos : Pos} (ha : PE X a (tI c W ma)) (hb : PE X b (tI c W mb)) : PE X (.Compare a [.Gt] [b] pos) (tI c W (sBin iGt ma mb)) := qe_cmp op_gt (ops_I0 fun _ _ _ _ => fzB) ha hb (nomark _)
theorem qe_ge {a b : Expr} {ma mb : Sm O} {pos : Pos} (ha : PE X a (tI c W ma)) (hb : PE X b (tI c W mb)) : PE X (.Compare a [.GtE] [b] pos) (tI c W (sBin iGe ma mb)) := qe_cmp op_ge (ops_I0 fun _ _ _ _ => fzB) ha hb (nomark _)

/-! ### equality, is -/
mutual
def D.toP : D → Option PyData
  | .non => some .none
  | .bl b => some (.bool b)
  | .int i => some (.int i)
  | .str s => some (.str s)
  | .tup ds => (D.toPs ds).map .tuple
  | .lst ds => (D.toPs ds).map .list
  | _ => none
def D.toPs : List D → Option (List PyData)
  | [] => some []
  | d :: ds => match d.toP with
    | some p => (match D.toPs ds with
      | some ps => some (p :: ps)
      | none => none)
    | none => none
end
def eqB (neg : Bool) (x y : D) : Option O := match x.toP, y.toP with
  | some a, some b => if SeqAt.shaped a && SeqAt.shaped b then some (.fz (.bl (if neg then !PyData.eqv a b else PyData.eqv a b))) else none
  | _, _ => none
mutual
theorem Fz.dp {K : PySem.W.Frag} {G H : Hp} (l : Ext G H) : ∀ (d : D) (v : V) (p : PyData), Fz K G d v → d.toP = some p → Dp K H v p
  | .non, v, p, h, e => by
    rw [D.toP] at e
    cases e
    rw [h.non]
    exact .non
  | .bl b, v, p, h, e => by
    rw [D.toP] at e
    cases e
    rw [h.bl]
    exact .bl b
  | .int i, v, p, h, e => by
    rw [D.toP] at e
    cases e
    rw [h.int]
    exact .int i
  | .str s, v, p, h, e => by
    rw [D.toP] at e
    cases e
    rw [h.str]
    exact .str s
  | .tup ds, v, p, h, e => by
    rw [D.toP] at e
    obtain ⟨ps, e1, rfl⟩ := Option.map_eq_some_iff.mp e
    rw [Fz] at h
    obtain ⟨a, us, rfl, q, r⟩ := h
    exact .tup (l.le.sqT q) (Fzs.dp l ds us ps r e1)
  | .lst ds, v, p, h, e => by
    rw [D.toP] at e
    obtain ⟨ps, e1, rfl⟩ := Option.map_eq_some_iff.mp e
    rw [Fz] at h
    obtain ⟨a, us, rfl, q, r⟩ := h
    exact .lst (SqL.of (l _ _ q)) (Fzs.dp l ds us ps r e1)
  | .scr ns, v, p, h, e => by simp [D.toP] at e
  | .dk ks ds, v, p, h, e => by simp [D.toP] at e
  | .dt ks ds, v, p, h, e => by simp [D.toP] at e
  | .ins n ks ds, v, p, h, e => by simp [D.toP] at e
theorem Fzs.dp {K : PySem.W.Frag} {G H : Hp} (l : Ext G H) : ∀ (ds : List D) (us : List V) (ps : List PyData), Fzs K G ds us → D.toPs ds = some ps → DpAll K H us ps
  | [], us, ps, h, e => by
    rw [D.toPs] at e
    cases e
    rw [Fzs] at h
    rw [h]
    exact .nil
  | d :: ds, us, ps, h, e => by
    rw [D.toPs] at e
    split at e
    · rename_i p hp
      split at e
      · rename_i ps' hps
        cases e
        rw [Fzs] at h
        obtain ⟨x, xs, rfl, q, r⟩ := h
        exact .cons (Fz.dp l d x p q hp) (Fzs.dp l ds xs ps' r hps)
      · cases e
    · cases e
end
theorem ops_eq : OpS c (eqB false) (rEqD c.K) := by
  intro G H e σ ts vs dx dy z x y Q R fx fy hz q
  unfold eqB at hz
  split at hz
  · rename_i a b ha hb
    split at hz
    · rename_i hs
      cases hz
      obtain ⟨s1, s2⟩ := Bool.and_eq_true_iff.mp hs
      exact ⟨a, b, Fz.dp R.g dx x a fx ha, Fz.dp R.g dy y b fy hb, s1, s2, q G H _ (R.push fzB)⟩
    · cases hz
  · cases hz
theorem ops_ne : OpS c (eqB true) (rNeD c.K) := by
  intro G H e σ ts vs dx dy z x y Q R fx fy hz q
  unfold eqB at hz
  split at hz
  · rename_i a b ha hb
    split at hz
    · rename_i hs
      cases hz
      obtain ⟨s1, s2⟩ := Bool.and_eq_true_iff.mp hs
      exact ⟨a, b, Fz.dp R.g dx x a fx ha, Fz.dp R.g dy y b fy hb, s1, s2, q G H _ (R.push fzB)⟩
    · cases hz
  · cases hz
theorem qe_eq {a b : Expr} {ma mb : Sm O} {pos : Pos} (hK : X.K = c.K) (hu : X.A.units + 64 < cLine) (ha : PE X a (tI c W ma)) (hb : PE X b (tI c W mb)) : PE X (.Compare a [.Eq] [b] pos) (tI c W (sBin (eqB false) ma mb)) :=
  qe_cmp (op_eqD hu) (by rw [hK]; exact ops_eq) ha hb (nomark _)
theorem qe_ne {a b : Expr} {ma mb : Sm O} {pos : Pos} (hK : X.K = c.K) (hu : X.A.units + 64 < cLine) (ha : PE X a (tI c W ma)) (hb : PE X b (tI c W mb)) : PE X (.Compare a [.NotEq] [b] pos) (tI c W (sBin (eqB true) ma mb)) :=
  qe_cmp (op_neD hu) (by rw [hK]; exact ops_ne) ha hb (nomark _)
def D.isN : D → Bool
  | .non => true
  | _ => false
/-- is, is not of bools and of None -/
def isB (neg : Bool) : D → D → Option O
  | .bl a, .bl b => some (.fz (.bl (if neg then !decide (a = b) else decide (a = b))))
  | x, .non => some (.fz (.bl (if neg then !x.isN else x.isN)))
  | _, _ => none
theorem Fz.isN {K : PySem.W.Frag} {G : Hp} {d : D} {v : V} (h : Fz K G d v) : decide (v = .non) = d.isN := by
  cases d with
  | non => rw [h.non]; rfl
  | bl b => rw [h.bl]; rfl
  | int i => rw [h.int]; rfl
  | str s => rw [h.str]; rfl
  | tup ds =>
    rw [Fz] at h
    obtain ⟨a, us, rfl, _⟩ := h
    rfl
  | lst ds =>
    rw [Fz] at h
    obtain ⟨a, us, rfl, _⟩ := h
    rfl
  | scr ds =>
    rw [Fz] at h
    obtain ⟨a, rfl, _⟩ := h
    rfl
  | dk ks ds =>
    rw [Fz] at h
    obtain ⟨a, us, rfl, _⟩ := h
    rfl
  | dt ks ds =>
    rw [Fz] at h
    obtain ⟨a, us, rfl, _⟩ := h
    rfl
  | ins n ks ds =>
    rw [Fz] at h
    obtain ⟨a, dx, us, rfl, _⟩ := h
    rfl
theorem ops_is : OpS c (isB false) (fun x y H Q => rIsB x y H Q ∨ (y = .non ∧ Q (.bl (decide (x = .non))) H)) := by
  intro G H e σ ts vs dx dy z x y Q R fx fy hz q
  unfold isB at hz
  split at hz
  · rename_i a b
    cases hz
    exact .inl ⟨a, b, fx.bl, fy.bl, q G H _ (R.push fzB)⟩
  · cases hz
    refine .inr ⟨fy.non, q G H _ (R.push ?_)⟩
    rw [fx.isN]
    exact fzB
  · cases hz
theorem ops_isnot : OpS c (isB true) (fun x y H Q => rNotB x y H Q ∨ (y = .non ∧ Q (.bl (!decide (x = .non))) H)) := by
  intro G H e σ ts vs dx dy z x y Q R fx fy hz q
  unfold isB at hz
  split at hz
  · rename_i a b
    cases hz
    exact .inl ⟨a, b, fx.bl, fy.bl, q G H _ (R.push fzB)⟩
  · cases hz
    refine .inr ⟨fy.non, q G H _ (R.push ?_)⟩
    rw [fx.isN]
    exact fzB
  · cases hz
theorem qe_is {a b : Expr} {ma mb : Sm O} {pos : Pos} (ha : PE X a (tI c W ma)) (hb : PE X b (tI c W mb)) : PE X (.Compare a [.Is] [b] pos) (tI c W (sBin (isB false) ma mb)) := qe_cmp (op_isBl.or op_isN) ops_is ha hb (nomark _)
theorem qe_isnot {a b : Expr} {ma mb : Sm O} {pos : Pos} (ha : PE X a (tI c W ma)) (hb : PE X b (tI c W mb)) : PE X (.Compare a [.IsNot] [b] pos) (tI c W (sBin (isB true) ma mb)) := qe_cmp (op_notBl.or op_notN) ops_isnot ha hb (nomark _)

/-! ### one operand -/
def sUn (op : D → Option O) (a : Sm O) : Sm O := fun e => (a e).bind fun x e1 => match op x.toD with
  | some z => .ok z e1
  | none => .stuck
def UnS (c : Cl) (op : D → Option O) (r : V → Hp → VK → Prop) : Prop := ∀ (G H : Hp) (e : PV.Env) (σ : L2.St) (ts : List O) (vs : List V) (dx : D) (z : O) (x : V) (Q : VK),
  Rel c G H e σ ts vs → Fz c.K G dx x → op dx = some z → (∀ G' H' v, Rel c G' H' e σ (z :: ts) (v :: vs) → Q v H') → r x H Q
theorem tI_un {op : D → Option O} {r : V → Hp → VK → Prop} {ma : Sm O} (hr : UnS c op r) : ∀ σ H Q, tI c W (sUn op ma) σ H Q → tI c W ma σ H (fun x H1 => r x H1 Q) := fun σ H Q ⟨G, e, ts, vs, R, h⟩ =>
  tI_seq R h fun G1 H1 x ox e1 R1 h1 => by
    obtain ⟨G2, _, R2, f⟩ := R1.cool1
    cases hz : op ox.toD with
    | none =>
      simp only [hz] at h1
      exact h1.elim
    | some z =>
      simp only [hz] at h1
      exact hr G2 H1 e1 σ ts vs _ z x Q R2 f hz h1
def negD : D → Option O
  | .int i => some (.fz (.int (-i)))
  | _ => none
theorem qe_neg {a : Expr} {ma : Sm O} {pos : Pos} (ha : PE X a (tI c W ma)) : PE X (.UnaryOp .USub a pos) (tI c W (sUn negD ma)) :=
  PE.imp (pe_un un_neg ha) (tI_un fun G H e σ ts vs dx z x Q R f hz q => by
    unfold negD at hz
    split at hz
    · cases hz
      exact ⟨_, f.int, q G H _ (R.push fzI)⟩
    · cases hz)
end
end PV

namespace PV
open PySem PySem.Spec PyProof.Rows L2
section
variable {X : Cx} {c : Cl} {W : WX} {G H : Hp} {e : PV.Env} {σ : L2.St} {ts : List O} {vs : List V} {α β : Type}

/-! ### arguments, displays -/
def sNil : Sm (List D) := fun e => .ok [] e
def sCons (m : Sm O) (ms : Sm (List D)) : Sm (List D) := fun e => (m e).bind fun o e1 => (ms e1).bind fun ds e2 => .ok (o.toD :: ds) e2
theorem qa_nil : PA X [] (tA c W sNil) := PA.imp pa_nil fun σ H Q ⟨G, e, ts, vs, R, h⟩ => h G H [] R (by rw [Fzs])
theorem qa_cons {ex : Expr} {es : List Expr} {m : Sm O} {ms : Sm (List D)} (ha : PE X ex (tI c W m)) (hr : PA X es (tA c W ms)) (hs : starEach (ex :: es) X.env = (false, eval ex X.env) :: starEach es X.env := by rfl) : PA X (ex :: es) (tA c W (sCons m ms)) :=
  PA.imp (pa_cons ha hr hs) fun σ H Q ⟨G, e, ts, vs, R, h⟩ => tI_seq R h fun G1 H1 x ox e1 R1 h1 => by
    obtain ⟨G1', _, R1'⟩ := R1.cool
    exact tA_seq R1' h1.push fun G2 H2 us ds e2 R2 f h2 => h2 G2 H2 (x :: us) R2.pop (by rw [Fzs]; exact ⟨x, us, rfl, R2.fz, f⟩)
theorem Rel.gnone (R : Rel c G H e σ ts vs) {p : Addr} (hp : H p = none) : G p = none := by
  cases q : G p with
  | none => rfl
  | some w =>
    rw [R.g p w q] at hp
    cases hp
def few (ds : List D) : Bool := Nat.ble ds.length 1000
theorem few_le {ds : List D} (h : few ds = true) : ds.length ≤ sizeLine := Nat.le_trans (Nat.le_of_ble_eq_true h) (by decide)
def sTup (ms : Sm (List D)) : Sm O := fun e => (ms e).bind fun ds e1 => if few ds then .ok (.fz (.tup ds)) e1 else .stuck
def sLst (ms : Sm (List D)) : Sm O := fun e => (ms e).bind fun ds e1 => if few ds then .ok (.lst (ds.map .fz)) e1 else .stuck
theorem Rel.laidT (R : Rel c G H e σ ts vs) {p : Addr} {us : List V} {ds : List D} (hp : H p = none) (f : Fzs c.K G ds us) : Rel c (upd G p (.tup us)) (upd H p (.tup us)) e σ (.fz (.tup ds) :: ts) (.ref p :: vs) :=
  (R.laid (.tup us) hp).push (by rw [Fz]; exact ⟨p, us, rfl, SqT.of upd_same, Fzs.mono (Ext.new (R.gnone hp)) ds us f⟩)
theorem qe_tup {es : List Expr} {x1 pos} {ms : Sm (List D)} (h : PA X es (tA c W ms)) : PE X (.Tuple es x1 pos) (tI c W (sTup ms)) :=
  PE.imp (pe_tup h) fun σ H Q ⟨G, e, ts, vs, R, h⟩ => tA_seq R h fun G1 H1 us ds e1 R1 f h1 => by
    split at h1
    · rename_i hl
      exact ⟨by rw [← f.len]; exact few_le hl, fun p hp => h1 _ _ _ (R1.laidT hp f)⟩
    · exact h1.elim
theorem qe_lst {es : List Expr} {pos} {ms : Sm (List D)} (h : PA X es (tA c W ms)) : PE X (.List es pos) (tI c W (sLst ms)) :=
  PE.imp (pe_lst h) fun σ H Q ⟨G, e, ts, vs, R, h⟩ => tA_seq R h fun G1 H1 us ds e1 R1 f h1 => by
    split at h1
    · rename_i hl
      exact ⟨by rw [← f.len]; exact few_le hl, fun p hp => h1 _ _ _ (R1.laidL hp f)⟩
    · exact h1.elim

/-! ### items -/
theorem atI_fzs {K : PySem.W.Frag} {ds : List D} {us : List V} {j : Int} {d : D} (f : Fzs K G ds us) (h : atI ds j = some d) : ∃ v, atI us j = some v ∧ Fz K G d v := by
  unfold atI at h ⊢
  rw [← f.len]
  cases q : ixN ds.length j with
  | none =>
    rw [q] at h
    cases h
  | some k =>
    rw [q] at h
    obtain ⟨v, h1, h2⟩ := f.get (i := k) (by simpa using h)
    exact ⟨v, by simpa using h1, h2⟩
theorem Ows.len {K : PySem.W.Frag} : ∀ {os : List O} {us : List V} {f : List Addr}, Ows K G H os us f → os.length = us.length
  | [], us, f, h => by
    rw [Ows] at h
    rw [h.1] <;> rfl
  | o :: os, us, f, h => by
    rw [Ows] at h
    obtain ⟨x, xs, f1, f2, rfl, q, r, _⟩ := h
    rw [List.length_cons, List.length_cons, Ows.len r]
theorem Ows.get {K : PySem.W.Frag} : ∀ {os : List O} {us : List V} {f : List Addr} {i : Nat} {o : O}, Ows K G H os us f → os[i]? = some o → ∃ v f1, us[i]? = some v ∧ Ow K G H o v f1
  | [], us, f, i, o, h, e => by simp at e
  | o :: os, us, f, 0, o', h, e => by
    rw [Ows] at h
    obtain ⟨x, xs, f1, f2, rfl, q, r, _⟩ := h
    simp at e
    subst e
    exact ⟨x, f1, by simp, q⟩
  | o :: os, us, f, i + 1, o', h, e => by
    rw [Ows] at h
    obtain ⟨x, xs, f1, f2, rfl, q, r, _⟩ := h
    obtain ⟨v, g, h1, h2⟩ := Ows.get (i := i) r (by simpa using e)
    exact ⟨v, g, by simpa using h1, h2⟩
theorem atI_ows {K : PySem.W.Frag} {os : List O} {us : List V} {f : List Addr} {j : Int} {d : D} (h0 : Ows K G H os us f) (h : atI os j = some (.fz d)) : ∃ v, atI us j = some v ∧ Fz K G d v := by
  unfold atI at h ⊢
  rw [← h0.len]
  cases q : ixN os.length j with
  | none =>
    rw [q] at h
    cases h
  | some k =>
    rw [q] at h
    obtain ⟨v, f1, h1, h2⟩ := h0.get (i := k) (by simpa using h)
    rw [Ow] at h2
    exact ⟨v, by simpa using h1, h2.2⟩
theorem atI_map {α β : Type} (g : α → β) (l : List α) (j : Int) : atI (l.map g) j = (atI l j).map g := by
  unfold atI
  rw [List.length_map]
  cases ixN l.length j with
  | none => rfl
  | some k => simp
def ixD : D → D → Option D
  | .lst ds, .int j => atI ds j
  | .tup ds, .int j => atI ds j
  | .scr ns, .int j => (atI ns j).map .int
  | .str s, .int j => if s.length ≤ sizeLine then (atI s.cps.toList j).map fun k => .str ⟨#[k]⟩ else none
  | _, _ => none
def ixO : D → D → Option O := fun x y => (ixD x y).map .fz
/-- from what stands for the base, the item -/
theorem ix_of {dx dy d : D} {x y : V} {Q : VK} (l : Ext G H) (fx : Fz c.K G dx x) (fy : Fz c.K G dy y) (hz : ixD dx dy = some d) (q : ∀ v, Fz c.K G d v → Q v H) : rIx c.K x y H Q := by
  unfold ixD at hz
  split at hz
  · rw [Fz] at fx
    obtain ⟨p, us, rfl, h1, f⟩ := fx
    obtain ⟨v, h2, f2⟩ := atI_fzs f hz
    exact .inl ⟨p, us, _, v, rfl, fy.int, SqL.of (l _ _ h1), h2, q v f2⟩
  · rw [Fz] at fx
    obtain ⟨p, us, rfl, h1, f⟩ := fx
    obtain ⟨v, h2, f2⟩ := atI_fzs f hz
    exact .inr (.inl ⟨p, us, _, v, rfl, fy.int, l.le.sqT h1, h2, q v f2⟩)
  · rename_i ns j
    rw [Fz] at fx
    obtain ⟨p, rfl, h1⟩ := fx
    obtain ⟨n, h2, rfl⟩ := Option.map_eq_some_iff.mp hz
    exact .inl ⟨p, _, _, .int n, rfl, fy.int, l.le.sqL h1, by rw [atI_map, h2] <;> rfl, q _ fzI⟩
  · rename_i s j
    split at hz
    · rename_i hl
      obtain ⟨k, h2, rfl⟩ := Option.map_eq_some_iff.mp hz
      exact .inr (.inr ⟨s, _, k, fx.str, fy.int, hl, h2, q _ fzS⟩)
    · cases hz
  · cases hz
theorem qe_idx {a b : Expr} {ma mb : Sm O} {pos : Pos} (hK : X.K = c.K) (ha : PE X a (tI c W ma)) (hb : PE X b (tI c W mb)) (hs : PlainIx b := by exact fun _ _ => rfl) : PE X (.Subscript a b pos) (tI c W (sBin ixO ma mb)) :=
  PE.imp (pe_ix ix_seq ha hb hs) (tI_bin fun G H e σ ts vs dx dy z x y Q R fx fy hz q => by
    obtain ⟨d, hd, rfl⟩ := Option.map_eq_some_iff.mp hz
    rw [hK]
    exact ix_of R.g fx fy hd fun v f => q G H v (R.push f))
/-- a name that is only looked at -/
def held (e : PV.Env) (i : Nat) : Bool := match e[i]? with
  | some (.o _) => true
  | some (.bo _) => true
  | _ => false
def ixV : Sl → D → Option D
  | .o (.fz d), k => ixD d k
  | .o (.lst os), .int j => (match atI os j with
    | some (.fz d) => some d
    | _ => none)
  | .bo ds, .int j => atI ds j
  | _, _ => none
def sIdxV (i : Nat) (mb : Sm O) : Sm O := fun e => if held e i then (mb e).bind fun k e1 => match e1[i]? with
    | some s => (match ixV s k.toD with
      | some d => .ok (.fz d) e1
      | none => .stuck)
    | none => .stuck
  else .stuck
theorem Rel.peek (R : Rel c G H e σ ts vs) {i : Nat} {s : Sl} (h : e[i]? = some s) : ∃ v fp, σ[i]? = some v ∧ RepS c G H s v fp := by
  obtain ⟨fe, ft, h1, _⟩ := R.rep
  obtain ⟨v, f0, f1, f2, h2, _, h3, _⟩ := h1.at h
  exact ⟨v, f1, h2, h3⟩
theorem Rel.held (R : Rel c G H e σ ts vs) {i : Nat} (h : held e i = true) : ∃ x, σ[i]? = some (some x) := by
  unfold PV.held at h
  split at h
  · rename_i o ho
    obtain ⟨v, fp, h1, x, rfl, _⟩ := R.peek ho
    exact ⟨x, h1⟩
  · rename_i ds ho
    obtain ⟨v, fp, h1, _, a, us, rfl, _⟩ := R.peek ho
    exact ⟨_, h1⟩
  · cases h
theorem qe_idxV (i : Nat) {x : Str} {b : Expr} {mb : Sm O} {pos p : Pos} (hK : X.K = c.K) (ha : PE X (.Name x p) (tVar i)) (hb : PE X b (tI c W mb)) (hs : PlainIx b := by exact fun _ _ => rfl) : PE X (.Subscript (.Name x p) b pos) (tI c W (sIdxV i mb)) :=
  PE.imp (pe_ix ix_seq ha hb hs) fun σ H Q ⟨G, e, ts, vs, R, h⟩ => by
    unfold sIdxV at h
    split at h
    · rename_i hh
      obtain ⟨x, hx⟩ := R.held hh
      refine ⟨x, hx, tI_seq R h fun G1 H1 y oy e1 R1 h1 => ?_⟩
      obtain ⟨G2, hG, R2, fy⟩ := R1.cool1
      split at h1
      · rename_i s hs
        split at h1
        · rename_i d hd
          obtain ⟨v, fp, hv, rep⟩ := R2.peek hs
          rw [hx] at hv
          cases hv
          rw [hK]
          unfold ixV at hd
          split at hd
          · obtain ⟨x', e', r⟩ := rep
            cases e'
            rw [Ow] at r
            exact ix_of R2.g r.2 fy hd fun v f => h1 G2 H1 v (R2.push f)
          · rename_i os j hk
            obtain ⟨x', e', r⟩ := rep
            cases e'
            rw [Ow] at r
            obtain ⟨a, us, f, rfl, ha', r, rfl⟩ := r
            split at hd
            · rename_i d' hat
              cases hd
              obtain ⟨v, h3, h4⟩ := atI_ows r hat
              rw [hk] at fy
              exact .inl ⟨a, us, _, v, rfl, fy.int, SqL.of ha', h3, h1 G2 H1 v (R2.push h4)⟩
            · cases hd
          · rename_i ds j hk
            obtain ⟨_, a, us, e', sq, f⟩ := rep
            cases e'
            obtain ⟨v, h3, h4⟩ := atI_fzs f hd
            rw [hk] at fy
            exact .inl ⟨a, us, _, v, rfl, fy.int, R2.h0.le.sqL sq, h3, h1 G2 H1 v (R2.push (Fz.mono R2.g0 _ _ h4))⟩
          · cases hd
        · exact h1.elim
      · exact h1.elim
    · exact h.elim

/-! ### built-in functions of data -/
def sBi (op : List D → Option O) (ms : Sm (List D)) : Sm O := fun e => (ms e).bind fun ds e1 => match op ds with
  | some z => .ok z e1
  | none => .stuck
def BiS (c : Cl) (op : List D → Option O) (r : List V → Hp → VK → Prop) : Prop := ∀ (G H : Hp) (e : PV.Env) (σ : L2.St) (ts : List O) (vs : List V) (ds : List D) (z : O) (us : List V) (Q : VK),
  Rel c G H e σ ts vs → Fzs c.K G ds us → op ds = some z → (∀ G' H' v, Rel c G' H' e σ (z :: ts) (v :: vs) → Q v H') → r us H Q
theorem tA_bi {op : List D → Option O} {r : List V → Hp → VK → Prop} {ms : Sm (List D)} (hr : BiS c op r) : ∀ σ H Q, tI c W (sBi op ms) σ H Q → tCB r (tA c W ms) σ H Q := fun σ H Q ⟨G, e, ts, vs, R, h⟩ =>
  tA_seq R h fun G1 H1 us ds e1 R1 f h1 => by
    cases hz : op ds with
    | none =>
      simp only [hz] at h1
      exact h1.elim
    | some z =>
      simp only [hz] at h1
      exact hr G1 H1 e1 σ ts vs ds z us Q R1 f hz h1
theorem qe_bi {x : Str} {id : String} {p pos : Pos} {ex : Expr} {es : List Expr} {op : List D → Option O} {r : List V → Hp → VK → Prop} {ms : Sm (List D)} (hc : CallR X (.builtin id) r) (hr : BiS c op r) (hg : Gl X x) (hm : X.mg x = none) (hv : bootBuiltins x = some (.builtin id)) (ha : PA X (ex :: es) (tA c W ms))
    (hn : x ≠ "__name__" := by decide) (hdb : (x == ("__debug__" : Str)) = false := by decide) (he : starEach (ex :: es) X.env = (false, eval ex X.env) :: starEach es X.env := by rfl) (hpl : (backTo pos (starEach es X.env)).any (·.1) = false := by rfl) :
    PE X (.Call (.Name x p) (ex :: es) [] pos) (tI c W (sBi op ms)) := PE.imp (pe_callB hc hg hm hv ha hn hdb he hpl) (tA_bi hr)
theorem qe_biT {x : Str} {T : String} {p pos : Pos} {ex : Expr} {es : List Expr} {op : List D → Option O} {r : List V → Hp → VK → Prop} {ms : Sm (List D)} (hc : CallR X (.type T) r) (hr : BiS c op r) (hg : Gl X x) (hm : X.mg x = none) (hv : bootBuiltins x = some (.type T)) (ha : PA X (ex :: es) (tA c W ms))
    (hn : x ≠ "__name__" := by decide) (hdb : (x == ("__debug__" : Str)) = false := by decide) (he : starEach (ex :: es) X.env = (false, eval ex X.env) :: starEach es X.env := by rfl) (hpl : (backTo pos (starEach es X.env)).any (·.1) = false := by rfl) :
    PE X (.Call (.Name x p) (ex :: es) [] pos) (tI c W (sBi op ms)) := PE.imp (pe_callTy hc hg hm hv ha hn hdb he hpl) (tA_bi hr)
theorem qe_biF {x : Str} {id : String} {p pos : Pos} {ex : Expr} {es : List Expr} {op : List D → Option O} {r : List V → Hp → VK → Prop} {ms : Sm (List D)} (hc : CallR X (.builtin id) r) (hr : BiS c op r) (hg : Gl X x) (hm : X.mg x = some (.builtin id)) (ha : PA X (ex :: es) (tA c W ms))
    (hdb : (x == ("__debug__" : Str)) = false := by decide) (he : starEach (ex :: es) X.env = (false, eval ex X.env) :: starEach es X.env := by rfl) (hpl : (backTo pos (starEach es X.env)).any (·.1) = false := by rfl) :
    PE X (.Call (.Name x p) (ex :: es) [] pos) (tI c W (sBi op ms)) := PE.imp (pe_callBfun hc hg hm ha hdb he hpl) (tA_bi hr)
theorem fzs1 {K : PySem.W.Frag} {d : D} {us : List V} (h : Fzs K G [d] us) : ∃ x, us = [x] ∧ Fz K G d x := by
  rw [Fzs] at h
  obtain ⟨x, xs, rfl, q, r⟩ := h
  rw [Fzs] at r
  exact ⟨x, by rw [r], q⟩
theorem fzs2 {K : PySem.W.Frag} {d d' : D} {us : List V} (h : Fzs K G [d, d'] us) : ∃ x y, us = [x, y] ∧ Fz K G d x ∧ Fz K G d' y := by
  rw [Fzs] at h
  obtain ⟨x, xs, rfl, q, r⟩ := h
  obtain ⟨y, rfl, q'⟩ := fzs1 r
  exact ⟨x, y, rfl, q, q'⟩
def absB : List D → Option O
  | [.int i] => some (.fz (.int (if i < 0 then -i else i)))
  | _ => none
theorem bis_abs : BiS c absB (fun xs H Q => ∃ i, xs = [.int i] ∧ Q (.int (if i < 0 then -i else i)) H) := by
  intro G H e σ ts vs ds z us Q R f hz q
  unfold absB at hz
  split at hz
  · cases hz
    obtain ⟨x, ex, f1⟩ := fzs1 f; subst ex; clear f; have f := f1; clear f1
    exact ⟨_, by rw [f.int], q G H _ (R.push fzI)⟩
  · cases hz
def minB : List D → Option O
  | [.int i, .int j] => some (.fz (.int (if j < i then j else i)))
  | _ => none
theorem bis_min : BiS c minB (fun xs H Q => ∃ i j, xs = [.int i, .int j] ∧ Q (.int (if j < i then j else i)) H) := by
  intro G H e σ ts vs ds z us Q R f hz q
  unfold minB at hz
  split at hz
  · cases hz
    obtain ⟨x, y, ex, f1, f'⟩ := fzs2 f; subst ex; clear f; have f := f1; clear f1
    exact ⟨_, _, by rw [f.int, f'.int], q G H _ (R.push fzI)⟩
  · cases hz
def maxB : List D → Option O
  | [.int i, .int j] => some (.fz (.int (if j > i then j else i)))
  | _ => none
theorem bis_max : BiS c maxB (fun xs H Q => ∃ i j, xs = [.int i, .int j] ∧ Q (.int (if j > i then j else i)) H) := by
  intro G H e σ ts vs ds z us Q R f hz q
  unfold maxB at hz
  split at hz
  · cases hz
    obtain ⟨x, y, ex, f1, f'⟩ := fzs2 f; subst ex; clear f; have f := f1; clear f1
    exact ⟨_, _, by rw [f.int, f'.int], q G H _ (R.push fzI)⟩
  · cases hz
def intB : List D → Option O
  | [.int i] => some (.fz (.int i))
  | [.bl b] => some (.fz (.int (if b then 1 else 0)))
  | _ => none
theorem bis_int : BiS c intB (fun xs H Q => (∃ i, xs = [.int i] ∧ Q (.int i) H) ∨ ∃ k, xs = [.bl k] ∧ Q (.int (if k then 1 else 0)) H) := by
  intro G H e σ ts vs ds z us Q R f hz q
  unfold intB at hz
  split at hz
  · cases hz
    obtain ⟨x, ex, f1⟩ := fzs1 f; subst ex; clear f; have f := f1; clear f1
    exact .inl ⟨_, by rw [f.int], q G H _ (R.push fzI)⟩
  · cases hz
    obtain ⟨x, ex, f1⟩ := fzs1 f; subst ex; clear f; have f := f1; clear f1
    exact .inr ⟨_, by rw [f.bl], q G H _ (R.push fzI)⟩
  · cases hz
def gcdB : List D → Option O
  | [.int i, .int j] => some (.fz (.int ((Nat.gcd i.natAbs j.natAbs : Nat) : Int)))
  | _ => none
theorem bis_gcd : BiS c gcdB rGcd := by
  intro G H e σ ts vs ds z us Q R f hz q
  unfold gcdB at hz
  split at hz
  · cases hz
    obtain ⟨x, y, ex, f1, f'⟩ := fzs2 f; subst ex; clear f; have f := f1; clear f1
    exact ⟨_, _, by rw [f.int, f'.int], q G H _ (R.push fzI)⟩
  · cases hz
def lenB : List D → Option O
  | [.str s] => if s.length ≤ sizeLine then some (.fz (.int s.length)) else none
  | [.lst ds] => some (.fz (.int ds.length))
  | [.tup ds] => some (.fz (.int ds.length))
  | [.scr ns] => some (.fz (.int ns.length))
  | _ => none
theorem bis_len (K : PySem.W.Frag) (hK : K = c.K) : BiS c lenB (fun xs H Q => ∃ x n, xs = [x] ∧ LenV K x H n ∧ Q (.int n) H) := by
  subst hK
  intro G H e σ ts vs ds z us Q R f hz q
  unfold lenB at hz
  split at hz
  · split at hz
    · rename_i hl
      cases hz
      obtain ⟨x, ex, f1⟩ := fzs1 f; subst ex; clear f; have f := f1; clear f1
      exact ⟨x, _, rfl, by rw [f.str]; exact ⟨hl, rfl⟩, q G H _ (R.push fzI)⟩
    · cases hz
  · cases hz
    obtain ⟨x, ex, f1⟩ := fzs1 f; subst ex; clear f; have f := f1; clear f1
    rw [Fz] at f
    obtain ⟨p, us, rfl, h1, f⟩ := f
    exact ⟨_, _, rfl, .inl ⟨us, SqL.of (R.g _ _ h1), f.len⟩, q G H _ (R.push fzI)⟩
  · cases hz
    obtain ⟨x, ex, f1⟩ := fzs1 f; subst ex; clear f; have f := f1; clear f1
    rw [Fz] at f
    obtain ⟨p, us, rfl, h1, f⟩ := f
    exact ⟨_, _, rfl, .inr ⟨us, R.g.le.sqT h1, f.len⟩, q G H _ (R.push fzI)⟩
  · cases hz
    obtain ⟨x, ex, f1⟩ := fzs1 f; subst ex; clear f; have f := f1; clear f1
    rw [Fz] at f
    obtain ⟨p, rfl, h1⟩ := f
    exact ⟨_, _, rfl, .inl ⟨_, R.g.le.sqL h1, (List.length_map ..).symm⟩, q G H _ (R.push fzI)⟩
  · cases hz
def listB : List D → Option O
  | [.lst ds] => some (.lst (ds.map .fz))
  | [.tup ds] => some (.lst (ds.map .fz))
  | _ => none
theorem bis_list (K : PySem.W.Frag) (hK : K = c.K) : BiS c listB (fun xs H Q => ∃ p ys, xs = [.ref p] ∧ (SqL K H p ys ∨ SqT K H p ys) ∧ ∀ l, H l = none → Q (.ref l) (upd H l (.lst ys))) := by
  subst hK
  intro G H e σ ts vs ds z us Q R f hz q
  unfold listB at hz
  split at hz
  · cases hz
    obtain ⟨x, ex, f1⟩ := fzs1 f; subst ex; clear f; have f := f1; clear f1
    rw [Fz] at f
    obtain ⟨p, us, rfl, h1, f⟩ := f
    exact ⟨_, _, rfl, .inl (SqL.of (R.g _ _ h1)), fun l hl => q _ _ _ (R.laidL hl f)⟩
  · cases hz
    obtain ⟨x, ex, f1⟩ := fzs1 f; subst ex; clear f; have f := f1; clear f1
    rw [Fz] at f
    obtain ⟨p, us, rfl, h1, f⟩ := f
    exact ⟨_, _, rfl, .inr (R.g.le.sqT h1), fun l hl => q _ _ _ (R.laidL hl f)⟩
  · cases hz
/-- len of a name that is only looked at -/
def lenV : Sl → Option Nat
  | .o (.lst os) => some os.length
  | .bo ds => some ds.length
  | .o (.fz (.lst ds)) => some ds.length
  | .o (.fz (.tup ds)) => some ds.length
  | .o (.fz (.scr ns)) => some ns.length
  | .o (.fz (.str s)) => if s.length ≤ sizeLine then some s.length else none
  | _ => none
def sLenV (i : Nat) : Sm O := fun e => match e[i]? with
  | some s => (match lenV s with
    | some n => .ok (.fz (.int n)) e
    | none => .stuck)
  | none => .stuck
theorem qe_lenV (i : Nat) {f x : Str} {p pos p2 : Pos} (hK : X.K = c.K) (ha : PE X (.Name x p2) (tVar i)) (hg : Gl X f) (hm : X.mg f = none) (hv : bootBuiltins f = some (.builtin "len")) (hn : f ≠ "__name__" := by decide) (hdb : (f == ("__debug__" : Str)) = false := by decide)
    (he : starEach [.Name x p2] X.env = (false, eval (.Name x p2) X.env) :: starEach [] X.env := by rfl) (hpl : (backTo pos (starEach [] X.env)).any (·.1) = false := by rfl) : PE X (.Call (.Name f p) [.Name x p2] [] pos) (tI c W (sLenV i)) :=
  PE.imp (pe_callB call_len hg hm hv (pa_cons ha pa_nil he) hn hdb he hpl) fun σ H Q ⟨G, e, ts, vs, R, h⟩ => by
    unfold sLenV at h
    split at h
    · rename_i s hs
      split at h
      · rename_i n hn
        obtain ⟨v, fp, hv, rep⟩ := R.peek hs
        rw [hK]
        unfold lenV at hn
        have fin : ∀ x, v = some x → LenV c.K x H n → tVar i σ H fun x H1 => tNil σ H1 fun xs H2 => ∃ y k, (x :: xs) = [y] ∧ LenV c.K y H2 k ∧ Q (.int k) H2 := fun x ev lv => ⟨x, by rw [hv, ev], x, n, rfl, lv, h G H _ (R.push fzI)⟩
        split at hn
        · cases hn
          obtain ⟨x, e', r⟩ := rep
          rw [Ow] at r
          obtain ⟨a, us, f, rfl, ha', r, rfl⟩ := r
          exact fin _ e' (.inl ⟨us, SqL.of ha', r.len⟩)
        · cases hn
          obtain ⟨_, a, us, e', sq, f⟩ := rep
          exact fin _ e' (.inl ⟨us, R.h0.le.sqL sq, f.len⟩)
        · cases hn
          obtain ⟨x, e', r⟩ := rep
          rw [Ow, Fz] at r
          obtain ⟨_, a, us, rfl, ha', r⟩ := r
          exact fin _ e' (.inl ⟨us, SqL.of (R.g _ _ ha'), r.len⟩)
        · cases hn
          obtain ⟨x, e', r⟩ := rep
          rw [Ow, Fz] at r
          obtain ⟨_, a, us, rfl, ha', r⟩ := r
          exact fin _ e' (.inr ⟨us, R.g.le.sqT ha', r.len⟩)
        · cases hn
          obtain ⟨x, e', r⟩ := rep
          rw [Ow, Fz] at r
          obtain ⟨_, a, rfl, ha'⟩ := r
          exact fin _ e' (.inl ⟨_, R.g.le.sqL ha', (List.length_map ..).symm⟩)
        · split at hn
          · rename_i hl
            cases hn
            obtain ⟨x, e', r⟩ := rep
            rw [Ow, Fz] at r
            exact fin _ e' (by rw [r.2]; exact ⟨hl, rfl⟩)
          · cases hn
        · cases hn
      · exact h.elim
    · exact h.elim

/-! ### isinstance of built-in types -/
def tyN : D → Option String
  | .non => some "NoneType"
  | .bl _ => some "bool"
  | .int _ => some "int"
  | .str _ => some "str"
  | .tup _ => some "tuple"
  | .lst _ => some "list"
  | .dk _ _ => some "dict"
  | .dt _ _ => some "dict"
  | _ => none
def subT (t T : String) : Bool := t == T || (t == "bool" && T == "int")
def isiD (T : String) : D → Option O := fun d => (tyN d).map fun t => .fz (.bl (subT t T))
theorem tyX_of {K : PySem.W.Frag} (l : Ext G H) : ∀ {d : D} {v : V} {t : String}, Fz K G d v → tyN d = some t → TyX K H v (.type t) := by
  intro d v t f h
  cases d with
  | non =>
    cases h
    rw [f.non]
    exact .base .non
  | bl b =>
    cases h
    rw [f.bl]
    exact .base (.bl b)
  | int i =>
    cases h
    rw [f.int]
    exact .base (.int i)
  | str s =>
    cases h
    rw [f.str]
    exact .base (.str s)
  | tup ds =>
    cases h
    rw [Fz] at f
    obtain ⟨a, us, rfl, q, _⟩ := f
    rcases q with (q | ⟨o, q⟩) | ⟨o, its, n, hk, hc, _⟩
    · exact .base (.tup (l _ _ q))
    · exact .fTuple (l _ _ q)
    · exact .kTuple hk hc
  | lst ds =>
    cases h
    rw [Fz] at f
    obtain ⟨a, us, rfl, q, _⟩ := f
    exact .base (.lst (l _ _ q))
  | dk ks ds =>
    cases h
    rw [Fz] at f
    obtain ⟨a, us, rfl, q, _⟩ := f
    exact .base (.dK (l _ _ q))
  | dt ks ds =>
    cases h
    rw [Fz] at f
    obtain ⟨a, us, rfl, q, _⟩ := f
    exact .base (.dT (l _ _ q))
  | scr ns => cases h
  | ins n ks ds => cases h
def kitAll (T : String) : Bool := ["NoneType", "bool", "int", "str", "tuple", "list", "dict"].all fun t => decide (kitB t T = some (subT t T))
theorem tyN_mem {d : D} {t : String} (h : tyN d = some t) : t ∈ ["NoneType", "bool", "int", "str", "tuple", "list", "dict"] := by
  cases d <;> cases h <;> decide
theorem qe_isi (T : String) {f t : Str} {a : Expr} {ma : Sm O} {p pos p2 : Pos} (hK : X.K = c.K) (hT : kitAll T = true) (ha : PE X a (tI c W ma)) (hg : Gl X f) (hm : X.mg f = none) (hv : bootBuiltins f = some (.builtin "isinstance")) (hgt : Gl X t) (hmt : X.mg t = none) (hvt : bootBuiltins t = some (.type T))
    (hn : f ≠ "__name__" := by decide) (hdb : (f == ("__debug__" : Str)) = false := by decide) (hnt : t ≠ "__name__" := by decide) (hdt : (t == ("__debug__" : Str)) = false := by decide)
    (he : starEach [a, .Name t p2] X.env = (false, eval a X.env) :: starEach [.Name t p2] X.env := by rfl) (he2 : starEach [.Name t p2] X.env = (false, eval (.Name t p2) X.env) :: starEach [] X.env := by rfl) (hpl : (backTo pos (starEach [.Name t p2] X.env)).any (·.1) = false := by rfl) :
    PE X (.Call (.Name f p) [a, .Name t p2] [] pos) (tI c W (sUn (isiD T) ma)) :=
  PE.imp (pe_callB call_isi hg hm hv (pa_cons ha (pa_cons (pe_bltn (v := .ty T) hgt hmt hvt rfl hnt hdt) pa_nil he2) he) hn hdb he hpl) fun σ H Q q => by
    refine tI_un (c := c) (W := W) (ma := ma) (op := isiD T) (r := fun x H1 Q => rIsi X.K [x, .ty T] H1 Q) (fun G H e σ ts vs dx z x Q R f hz q => ?_) σ H Q q
    obtain ⟨t, ht, rfl⟩ := Option.map_eq_some_iff.mp hz
    have hk := List.all_eq_true.mp hT t (tyN_mem ht)
    rw [hK]
    exact ⟨x, .ty T, .type t, .type T, _, rfl, .ty T, tyX_of R.g f ht, kit_ty (of_decide_eq_true hk), q G H _ (R.push fzB)⟩
end
end PV

namespace PV
open PySem PySem.Spec PyProof.Rows L2
section
variable {X : Cx} {c : Cl} {W : WX} {G H : Hp} {e : PV.Env} {σ : L2.St} {ts : List O} {vs : List V} {α β : Type}

/-! ### tests -/
def sAsT (m : Sm O) : Sm Bool := fun e => (m e).bind fun o e1 => match o.toD with
  | .bl b => .ok b e1
  | _ => .stuck
theorem tT_asT {m : Sm O} : ∀ σ H Q, tT c W (sAsT m) σ H Q → tI c W m σ H fun x H1 => ∃ k, x = .bl k ∧ Q k H1 := fun σ H Q ⟨G, e, ts, vs, R, h⟩ => tI_seq R h fun G1 H1 x o e1 R1 h1 => by
  obtain ⟨G2, _, R2, f⟩ := R1.cool1
  cases hd : o.toD with
  | bl b =>
    simp only [hd] at h1
    rw [hd] at f
    exact ⟨b, f.bl, h1 G2 H1 R2⟩
  | _ =>
    simp only [hd] at h1
    exact h1.elim
theorem qt_cmp {cop : CmpOp} {op : D → D → Option O} {r : R2} {a b : Expr} {ma mb : Sm O} {pos : Pos} (ho : OpR X (compareOp cop) r) (hr : OpS c op r) (ha : PE X a (tI c W ma)) (hb : PE X b (tI c W mb)) (hm : behindInMarks cop b = false) : PT X (.Compare a [cop] [b] pos) (tT c W (sAsT (sBin op ma mb))) :=
  PT.imp (pt_cmpR ho ha hb hm) fun σ H Q q => tI_bin hr σ H _ (tT_asT σ H Q q)
theorem qt_lt {a b : Expr} {ma mb : Sm O} {pos : Pos} (ha : PE X a (tI c W ma)) (hb : PE X b (tI c W mb)) : PT X (.Compare a [.Lt] [b] pos) (tT c W (sAsT (sBin iLt ma mb))) := qt_cmp op_lt (ops_I0 fun _ _ _ _ => fzB) ha hb (nomark _)
theorem qt_le {a b : Expr} {ma mb : Sm O} {pos : Pos} (ha : PE X a (tI c W ma)) (hb : PE X b (tI c W mb)) : PT X (.Compare a [.LtE] [b] pos) (tT c W (sAsT (sBin iLe ma mb))) := qt_cmp op_le (ops_I0 fun _ _ _ _ => fzB) ha hb (nomark _)
theorem qt_gt {a b : Expr} {ma mb : Sm O} {pos : Pos} (ha : PE X a (tI c W ma)) (hb : PE X b (tI c W mb)) : PT X (.Compare a [.Gt] [b] pos) (tT c W (sAsT (sBin iGt ma mb))) := qt_cmp op_gt (ops_I0 fun _ _ _ _ => fzB) ha hb (nomark _)
theorem qt_ge {a b : Expr} {ma mb : Sm O} {pos : Pos} (ha : PE X a (tI c W ma)) (hb : PE X b (tI c W mb)) : PT X (.Compare a [.GtE] [b] pos) (tT c W (sAsT (sBin iGe ma mb))) := qt_cmp op_ge (ops_I0 fun _ _ _ _ => fzB) ha hb (nomark _)
theorem qt_eq {a b : Expr} {ma mb : Sm O} {pos : Pos} (hK : X.K = c.K) (hu : X.A.units + 64 < cLine) (ha : PE X a (tI c W ma)) (hb : PE X b (tI c W mb)) : PT X (.Compare a [.Eq] [b] pos) (tT c W (sAsT (sBin (eqB false) ma mb))) :=
  qt_cmp (op_eqD hu) (by rw [hK]; exact ops_eq) ha hb (nomark _)
theorem qt_ne {a b : Expr} {ma mb : Sm O} {pos : Pos} (hK : X.K = c.K) (hu : X.A.units + 64 < cLine) (ha : PE X a (tI c W ma)) (hb : PE X b (tI c W mb)) : PT X (.Compare a [.NotEq] [b] pos) (tT c W (sAsT (sBin (eqB true) ma mb))) :=
  qt_cmp (op_neD hu) (by rw [hK]; exact ops_ne) ha hb (nomark _)
theorem qt_is {a b : Expr} {ma mb : Sm O} {pos : Pos} (ha : PE X a (tI c W ma)) (hb : PE X b (tI c W mb)) : PT X (.Compare a [.Is] [b] pos) (tT c W (sAsT (sBin (isB false) ma mb))) := qt_cmp (op_isBl.or op_isN) ops_is ha hb (nomark _)
theorem qt_isnot {a b : Expr} {ma mb : Sm O} {pos : Pos} (ha : PE X a (tI c W ma)) (hb : PE X b (tI c W mb)) : PT X (.Compare a [.IsNot] [b] pos) (tT c W (sAsT (sBin (isB true) ma mb))) := qt_cmp (op_notBl.or op_notN) ops_isnot ha hb (nomark _)
/-- any expression whose value is a bool -/
theorem qt_val {a : Expr} {m : Sm O} (h : PE X a (tI c W m)) (he : ∀ whole, isTrue a X.env whole = (do let v ← whole; standAt a.pos; holding [v] (truthy v)) := by intro _; rfl) : PT X a (tT c W (sAsT m)) :=
  PT.imp (pt_val h he) fun σ H Q q => tT_asT σ H Q q
/-- truth -/
def truD : D → Option Bool
  | .non => some false
  | .bl b => some b
  | .int i => some (i != 0)
  | .str s => if s.length ≤ sizeLine then some ((s.length : Int) != 0) else none
  | .lst ds => some (!ds.isEmpty)
  | .tup ds => some (!ds.isEmpty)
  | _ => none
def sTru (m : Sm O) : Sm Bool := fun e => (m e).bind fun o e1 => match truD o.toD with
  | some b => .ok b e1
  | none => .stuck
theorem isEmpty_len {α β : Type} {l : List α} {k : List β} (h : l.length = k.length) : l.isEmpty = k.isEmpty := by
  cases l <;> cases k <;> first | rfl | simp at h
theorem truV_of {K : PySem.W.Frag} (l : Ext G H) {d : D} {v : V} {b : Bool} (f : Fz K G d v) (h : truD d = some b) : TruV K v H b := by
  unfold truD at h
  split at h
  · cases h
    rw [f.non]
    rfl
  · cases h
    rw [f.bl]
    rfl
  · cases h
    rw [f.int]
    rfl
  · split at h
    · rename_i hl
      cases h
      rw [f.str]
      exact ⟨hl, rfl⟩
    · cases h
  · cases h
    rw [Fz] at f
    obtain ⟨a, us, rfl, q, r⟩ := f
    exact .inl ⟨us, SqL.of (l _ _ q), by rw [isEmpty_len r.len]⟩
  · cases h
    rw [Fz] at f
    obtain ⟨a, us, rfl, q, r⟩ := f
    exact .inr (.inl ⟨us, l.le.sqT q, by rw [isEmpty_len r.len]⟩)
  · cases h
theorem qt_tru {a : Expr} {m : Sm O} (hK : X.K = c.K) (h : PE X a (tI c W m)) (he : ∀ whole, isTrue a X.env whole = (do let v ← whole; standAt a.pos; holding [v] (truthy v)) := by intro _; rfl) : PT X a (tT c W (sTru m)) :=
  PT.imp (pt_truth h he) fun σ H Q ⟨G, e, ts, vs, R, h⟩ => tI_seq R h fun G1 H1 x o e1 R1 h1 => by
    obtain ⟨G2, _, R2, f⟩ := R1.cool1
    cases hd : truD o.toD with
    | none =>
      simp only [hd] at h1
      exact h1.elim
    | some b =>
      simp only [hd] at h1
      rw [hK]
      exact ⟨b, truV_of R2.g f hd, h1 G2 H1 R2⟩
/-- truth of a name that is only looked at -/
def truV : Sl → Option Bool
  | .o (.lst os) => some (!os.isEmpty)
  | .bo ds => some (!ds.isEmpty)
  | .o (.fz d) => truD d
  | _ => none
def sTruV (i : Nat) : Sm Bool := fun e => match e[i]? with
  | some s => (match truV s with
    | some b => .ok b e
    | none => .stuck)
  | none => .stuck
theorem qt_truV (i : Nat) {x : Str} {p : Pos} (hK : X.K = c.K) (h : PE X (.Name x p) (tVar i)) (he : ∀ whole, isTrue (.Name x p) X.env whole = (do let v ← whole; standAt p; holding [v] (truthy v)) := by intro _; rfl) : PT X (.Name x p) (tT c W (sTruV i)) :=
  PT.imp (pt_truth h he) fun σ H Q ⟨G, e, ts, vs, R, h⟩ => by
    unfold sTruV at h
    split at h
    · rename_i s hs
      split at h
      · rename_i b hb
        obtain ⟨v, fp, hv, rep⟩ := R.peek hs
        rw [hK]
        unfold truV at hb
        split at hb
        · cases hb
          obtain ⟨x, rfl, r⟩ := rep
          rw [Ow] at r
          obtain ⟨a, us, f, rfl, ha', r, rfl⟩ := r
          exact ⟨_, hv, _, .inl ⟨us, SqL.of ha', by rw [isEmpty_len r.len]⟩, h G H R⟩
        · cases hb
          obtain ⟨_, a, us, rfl, sq, f⟩ := rep
          exact ⟨_, hv, _, .inl ⟨us, R.h0.le.sqL sq, by rw [isEmpty_len f.len]⟩, h G H R⟩
        · obtain ⟨x, rfl, r⟩ := rep
          rw [Ow] at r
          exact ⟨_, hv, b, truV_of R.g r.2 hb, h G H R⟩
        · cases hb
      · exact h.elim
    · exact h.elim
def sNotT (t : Sm Bool) : Sm Bool := fun e => (t e).bind fun b e1 => .ok (!b) e1
theorem qt_not {a : Expr} {t : Sm Bool} {pos : Pos} (ha : PT X a (tT c W t)) : PT X (.UnaryOp .Not a pos) (tT c W (sNotT t)) :=
  PT.imp (pt_not ha) fun σ H Q ⟨G, e, ts, vs, R, h⟩ => tT_seq R h fun G1 H1 b e1 R1 h1 => h1 G1 H1 R1
def sAndT (t u : Sm Bool) : Sm Bool := fun e => (t e).bind fun b e1 => if b then u e1 else .ok false e1
def sOrT (t u : Sm Bool) : Sm Bool := fun e => (t e).bind fun b e1 => if b then .ok true e1 else u e1
theorem qw_and1 {a : Expr} {t : Sm Bool} {pos : Pos} (ha : PT X a (tT c W t)) : PW X (.BoolOp .And [a] pos) (tT c W t) := pw_and1 ha
theorem qw_or1 {a : Expr} {t : Sm Bool} {pos : Pos} (ha : PT X a (tT c W t)) : PW X (.BoolOp .Or [a] pos) (tT c W t) := pw_or1 ha
theorem qw_and {a b : Expr} {rest : List Expr} {t u : Sm Bool} {pos : Pos} (ha : PT X a (tT c W t)) (hb : PW X (.BoolOp .And (b :: rest) pos) (tT c W u)) : PW X (.BoolOp .And (a :: b :: rest) pos) (tT c W (sAndT t u)) :=
  PW.imp (pw_and ha hb) fun σ H Q ⟨G, e, ts, vs, R, h⟩ => tT_seq R h fun G1 H1 b e1 R1 h1 => by
    cases b with
    | true => exact ⟨G1, e1, ts, vs, R1, h1⟩
    | false => exact h1 G1 H1 R1
theorem qw_or {a b : Expr} {rest : List Expr} {t u : Sm Bool} {pos : Pos} (ha : PT X a (tT c W t)) (hb : PW X (.BoolOp .Or (b :: rest) pos) (tT c W u)) : PW X (.BoolOp .Or (a :: b :: rest) pos) (tT c W (sOrT t u)) :=
  PW.imp (pw_or ha hb) fun σ H Q ⟨G, e, ts, vs, R, h⟩ => tT_seq R h fun G1 H1 b e1 R1 h1 => by
    cases b with
    | true => exact h1 G1 H1 R1
    | false => exact ⟨G1, e1, ts, vs, R1, h1⟩
/-- and, or, not as values, of bools -/
def sAnd (a b : Sm O) : Sm O := fun e => (a e).bind fun o e1 => match o.toD with
  | .bl true => b e1
  | .bl false => .ok (.fz (.bl false)) e1
  | _ => .stuck
def sOr (a b : Sm O) : Sm O := fun e => (a e).bind fun o e1 => match o.toD with
  | .bl true => .ok (.fz (.bl true)) e1
  | .bl false => b e1
  | _ => .stuck
theorem qe_one {op} {a : Expr} {m : Sm O} {pos : Pos} (h : PE X a (tI c W m)) : PE X (.BoolOp op [a] pos) (tI c W m) := pe_one h
theorem qe_and {a b : Expr} {rest : List Expr} {ma mb : Sm O} {pos : Pos} (ha : PE X a (tI c W ma)) (hb : PE X (.BoolOp .And (b :: rest) pos) (tI c W mb)) : PE X (.BoolOp .And (a :: b :: rest) pos) (tI c W (sAnd ma mb)) :=
  PE.imp (pe_and ha hb) fun σ H Q ⟨G, e, ts, vs, R, h⟩ => tI_seq R h fun G1 H1 x o e1 R1 h1 => by
    obtain ⟨G2, _, R2, f⟩ := R1.cool1
    cases hd : o.toD with
    | bl b =>
      rw [hd] at f
      cases b with
      | true =>
        simp only [hd] at h1
        exact ⟨true, f.bl, G2, e1, ts, vs, R2, h1⟩
      | false =>
        simp only [hd] at h1
        exact ⟨false, f.bl, h1 G2 H1 _ (R2.push fzB)⟩
    | _ =>
      simp only [hd] at h1
      exact h1.elim
theorem qe_or {a b : Expr} {rest : List Expr} {ma mb : Sm O} {pos : Pos} (ha : PE X a (tI c W ma)) (hb : PE X (.BoolOp .Or (b :: rest) pos) (tI c W mb)) : PE X (.BoolOp .Or (a :: b :: rest) pos) (tI c W (sOr ma mb)) :=
  PE.imp (pe_or ha hb) fun σ H Q ⟨G, e, ts, vs, R, h⟩ => tI_seq R h fun G1 H1 x o e1 R1 h1 => by
    obtain ⟨G2, _, R2, f⟩ := R1.cool1
    cases hd : o.toD with
    | bl b =>
      rw [hd] at f
      cases b with
      | true =>
        simp only [hd] at h1
        exact ⟨true, f.bl, h1 G2 H1 _ (R2.push fzB)⟩
      | false =>
        simp only [hd] at h1
        exact ⟨false, f.bl, G2, e1, ts, vs, R2, h1⟩
    | _ =>
      simp only [hd] at h1
      exact h1.elim
def notD : D → Option O
  | .bl b => some (.fz (.bl (!b)))
  | _ => none
theorem qe_not {a : Expr} {ma : Sm O} {pos : Pos} (ha : PE X a (tI c W ma)) : PE X (.UnaryOp .Not a pos) (tI c W (sUn notD ma)) :=
  PE.imp (pe_not ha) (tI_un (r := fun x H Q => ∃ c, x = .bl c ∧ Q (.bl (!c)) H) fun G H e σ ts vs dx z x Q R f hz q => by
    unfold notD at hz
    split at hz
    · cases hz
      exact ⟨_, f.bl, q G H _ (R.push fzB)⟩
    · cases hz)
def sIfE (t : Sm Bool) (a b : Sm O) : Sm O := fun e => (t e).bind fun k e1 => if k then a e1 else b e1
theorem qe_ife {t a b : Expr} {mt : Sm Bool} {ma mb : Sm O} {pos : Pos} (ht : PT X t (tT c W mt)) (ha : PE X a (tI c W ma)) (hb : PE X b (tI c W mb)) : PE X (.IfExp t a b pos) (tI c W (sIfE mt ma mb)) :=
  PE.imp (pe_ifExp ht ha hb) fun σ H Q ⟨G, e, ts, vs, R, h⟩ => tT_seq R h fun G1 H1 k e1 R1 h1 => by
    cases k with
    | true => exact ⟨G1, e1, ts, vs, R1, h1⟩
    | false => exact ⟨G1, e1, ts, vs, R1, h1⟩
/-- a < b < c -/
def sChain (op op' : D → D → Option O) (a b d : Sm O) : Sm O := fun e => (a e).bind fun x e1 => (b e1).bind fun y e2 => match op x.toD y.toD with
  | some (.fz (.bl true)) => ((d e2).bind fun z e3 => match op' y.toD z.toD with
    | some r => .ok r e3
    | none => .stuck)
  | some (.fz (.bl false)) => .ok (.fz (.bl false)) e2
  | _ => .stuck

/-! ### slices -/
def tP (c : Cl) (W : WX) (m : Sm (Option Int)) : TO := fun σ H Q => ∃ G e ts vs, Rel c G H e σ ts vs ∧ Out c W σ ts vs (fun i e' => ∀ G' H', Rel c G' H' e' σ ts vs → Q i H') (m e)
theorem PO.imp {ex : Option Expr} {t t' : TO} (P : PO X ex t) (h : ∀ σ H Q, t' σ H Q → t σ H Q) : PO X ex t' := ⟨fun pins s σ H Q I q => P.run pins s σ H Q I (h σ H Q q)⟩
def sP0 : Sm (Option Int) := fun e => .ok none e
def sP1 (m : Sm O) : Sm (Option Int) := fun e => (m e).bind fun o e1 => match o.toD with
  | .int i => .ok (some i) e1
  | _ => .stuck
theorem qp_none : PO X none (tP c W sP0) := PO.imp po_none fun σ H Q ⟨G, e, ts, vs, R, h⟩ => h G H R
theorem qp_some {a : Expr} {m : Sm O} (h : PE X a (tI c W m)) : PO X (some a) (tP c W (sP1 m)) := PO.imp (po_some h) fun σ H Q ⟨G, e, ts, vs, R, h⟩ => tI_seq R h fun G1 H1 x o e1 R1 h1 => by
  obtain ⟨G2, _, R2, f⟩ := R1.cool1
  cases hd : o.toD with
  | int i =>
    simp only [hd] at h1
    rw [hd] at f
    exact ⟨i, f.int, h1 G2 H1 R2⟩
  | _ =>
    simp only [hd] at h1
    exact h1.elim
def cutG {α : Type} (xs : List α) (lo hi : Option Int) : List α := (xs.drop (HT.sIx xs.length 0 lo)).take (HT.sIx xs.length xs.length hi - HT.sIx xs.length 0 lo)
theorem Fzs.cut {K : PySem.W.Frag} {ds : List D} {us : List V} (f : Fzs K G ds us) (lo hi : Option Int) : Fzs K G (cutG ds lo hi) (cutV us lo hi) := by
  unfold cutG cutV
  rw [f.len]
  exact (f.drop _).take _
def slD (lo hi : Option Int) : D → Option O
  | .lst ds => some (.lst ((cutG ds lo hi).map .fz))
  | .tup ds => if HT.sIx ds.length 0 lo = 0 ∧ HT.sIx ds.length ds.length hi = ds.length then some (.fz (.tup ds)) else some (.fz (.tup (cutG ds lo hi)))
  | .str s => if s.length ≤ sizeLine then some (.fz (.str (cutS s lo hi))) else none
  | _ => none
def sSl (a : Sm O) (lo hi : Sm (Option Int)) : Sm O := fun e => (a e).bind fun o e1 => (lo e1).bind fun l e2 => (hi e2).bind fun h e3 => match slD l h o.toD with
  | some z => .ok z e3
  | none => .stuck
theorem tP_seq {m : Sm (Option Int)} {k : Option Int → PV.Env → Rs β} {P : β → PV.Env → Prop} {Q' : Option Int → Hp → Prop} (R : Rel c G H e σ ts vs) (h : Out c W σ ts vs P ((m e).bind k)) (hk : ∀ G1 H1 b e1, Rel c G1 H1 e1 σ ts vs → Out c W σ ts vs P (k b e1) → Q' b H1) : tP c W m σ H Q' :=
  ⟨G, e, ts, vs, R, h.bind.imp fun o e1 q G1 H1 R1 => hk G1 H1 o e1 R1 q⟩
theorem tI_sl {a : Sm O} {lo hi : Sm (Option Int)} {r : V → Option Int → Option Int → Hp → VK → Prop} (hr : ∀ (G H : Hp) (e : PV.Env) (σ : L2.St) (ts : List O) (vs : List V) (l h : Option Int) (dx : D) (z : O) (x : V) (Q : VK),
    Rel c G H e σ ts vs → Fz c.K G dx x → slD l h dx = some z → (∀ G' H' v, Rel c G' H' e σ (z :: ts) (v :: vs) → Q v H') → r x l h H Q) : ∀ σ H Q, tI c W (sSl a lo hi) σ H Q → tSl r (tI c W a) (tP c W lo) (tP c W hi) σ H Q :=
  fun σ H Q ⟨G, e, ts, vs, R, h⟩ => tI_seq R h fun G1 H1 x o e1 R1 h1 => by
    obtain ⟨G1', _, R1'⟩ := R1.cool
    refine tP_seq R1' h1.push fun G2 H2 l e2 R2 h2 => tP_seq R2 h2 fun G3 H3 u e3 R3 h3 => ?_
    cases hz : slD l u o.toD with
    | none =>
      simp only [hz] at h3
      exact h3.elim
    | some z =>
      simp only [hz] at h3
      exact hr G3 H3 e3 σ ts vs l u _ z x Q R3.pop R3.fz hz h3
/-- a list's slice, a text's slice -/
theorem qe_sl {a : Expr} {lo hi : Option Expr} {ma : Sm O} {ml mh : Sm (Option Int)} {p2 pos : Pos} (hK : X.K = c.K) (ha : PE X a (tI c W ma)) (hl : PO X lo (tP c W ml)) (hh : PO X hi (tP c W mh)) (hT : SlR X (fun x lo hi H Q => ∃ a xs, x = .ref a ∧ SqT X.K H a xs ∧ HT.sIx xs.length 0 lo = 0 ∧ HT.sIx xs.length xs.length hi = xs.length ∧ Q (.ref a) H)) :
    PE X (.Subscript a (.Slice lo hi none p2) pos) (tI c W (sSl ma ml mh)) :=
  PE.imp (pe_slice ((sl_list.or sl_str).or (sl_tup.or hT)) ha hl hh) (tI_sl fun G H e σ ts vs l h dx z x Q R f hz q => by
    unfold slD at hz
    split at hz
    · cases hz
      rw [Fz] at f
      obtain ⟨a, us, rfl, h1, f⟩ := f
      exact .inl (.inl ⟨a, us, rfl, SqL.of (R.g _ _ h1), fun p hp => q _ _ _ (R.laidL hp (f.cut l h))⟩)
    · rw [Fz] at f
      obtain ⟨a, us, rfl, h1, f⟩ := f
      split at hz
      · rename_i hw
        cases hz
        refine .inr (.inr ⟨a, us, rfl, by rw [hK]; exact R.g.le.sqT h1, by rw [← f.len]; exact hw.1, by rw [← f.len]; exact hw.2, q _ _ _ (R.push ?_)⟩)
        rw [Fz]
        exact ⟨a, us, rfl, h1, f⟩
      · rename_i hw
        cases hz
        exact .inr (.inl ⟨a, us, rfl, by rw [hK]; exact R.g.le.sqT h1, by rw [← f.len]; exact hw, fun p hp => q _ _ _ (R.laidT hp (f.cut l h))⟩)
    · split at hz
      · rename_i hl
        cases hz
        exact .inl (.inr ⟨_, f.str, hl, q _ _ _ (R.push fzS)⟩)
      · cases hz
    · cases hz)
/-- the same, not of tuples -/
def slL (lo hi : Option Int) : D → Option O
  | .tup _ => none
  | d => slD lo hi d
def sSlL (a : Sm O) (lo hi : Sm (Option Int)) : Sm O := fun e => (a e).bind fun o e1 => (lo e1).bind fun l e2 => (hi e2).bind fun h e3 => match slL l h o.toD with
  | some z => .ok z e3
  | none => .stuck
theorem qe_slL {a : Expr} {lo hi : Option Expr} {ma : Sm O} {ml mh : Sm (Option Int)} {p2 pos : Pos} (hK : X.K = c.K) (ha : PE X a (tI c W ma)) (hl : PO X lo (tP c W ml)) (hh : PO X hi (tP c W mh)) : PE X (.Subscript a (.Slice lo hi none p2) pos) (tI c W (sSlL ma ml mh)) :=
  PE.imp (pe_slice (sl_list.or sl_str) ha hl hh) fun σ H Q ⟨G, e, ts, vs, R, h⟩ => tI_seq R h fun G1 H1 x o e1 R1 h1 => by
    obtain ⟨G1', _, R1'⟩ := R1.cool
    refine tP_seq R1' h1.push fun G2 H2 l e2 R2 h2 => tP_seq R2 h2 fun G3 H3 u e3 R3 h3 => ?_
    cases hz : slL l u o.toD with
    | none =>
      simp only [hz] at h3
      exact h3.elim
    | some z =>
      simp only [hz] at h3
      have f := R3.fz
      have R := R3.pop
      generalize o.toD = d at hz f
      cases d with
      | lst ds =>
        cases hz
        rw [Fz] at f
        obtain ⟨a, us, rfl, h1, f⟩ := f
        exact .inl ⟨a, us, rfl, SqL.of (R.g _ _ h1), fun p hp => h3 _ _ _ (R.laidL hp (f.cut l u))⟩
      | str s =>
        have hz' : (if s.length ≤ sizeLine then some (O.fz (.str (cutS s l u))) else none) = some z := hz
        split at hz'
        · rename_i hl
          cases hz'
          exact .inr ⟨_, f.str, hl, h3 _ _ _ (R.push fzS)⟩
        · cases hz'
      | _ => cases hz

/-! ### the promise of a def, its call -/
def RepA (K : PySem.W.Frag) (G H : Hp) : Bool → D → V → Prop
  | true, .lst ds, v => ∃ a us, v = .ref a ∧ SqL K H a us ∧ Fzs K G ds us
  | _, d, v => Fz K G d v
def RepAs (K : PySem.W.Frag) (G H : Hp) : List Bool → List D → List V → Prop
  | _, [], vs => vs = []
  | ms, d :: ds, vs => ∃ x xs, vs = x :: xs ∧ RepA K G H (ms.headD false) d x ∧ RepAs K G H ms.tail ds xs
/-- ms: which parameters are only looked at -/
def spP (K : PySem.W.Frag) (n : Nat) (ms : List Bool) (m : List D → Rv) : Sp := fun vs H Q E => ∃ G as, as.length = n ∧ Ext G H ∧ RepAs K G H ms as vs ∧ match m as with
  | .stuck => False
  | .ok d => ∀ G' H' v, Ext H H' → Ext G G' → Ext G' H' → (∀ a u, G' a = some u → G a = none → H a = none) → Fz K G' d v → Q v H'
  | .exc x => ∀ G' H' d, Ext H H' → Ext G G' → Ext G' H' → (∀ a u, G' a = some u → G a = none → H a = none) → ExF K G' H' x d → E (.ref (He.ga K x.c)) d H'
theorem RepAs.len {K : PySem.W.Frag} : ∀ {ms : List Bool} {ds : List D} {us : List V}, RepAs K G H ms ds us → us.length = ds.length
  | ms, [], us, h => by
    unfold RepAs at h
    rw [h] <;> rfl
  | ms, d :: ds, us, h => by
    unfold RepAs at h
    obtain ⟨x, xs, rfl, _, r⟩ := h
    rw [List.length_cons, List.length_cons, RepAs.len r]
theorem spP.len {K : PySem.W.Frag} {n : Nat} {ms : List Bool} {m : List D → Rv} {us : List V} {H : Hp} {Q : VK} {E : XK} (h : spP K n ms m us H Q E) : us.length = n := by
  obtain ⟨G, as, h1, _, h2, _⟩ := h
  rw [h2.len, h1]
theorem RepA.of {K : PySem.W.Frag} (l : Ext G H) {b : Bool} {d : D} {v : V} (f : Fz K G d v) : RepA K G H b d v := by
  cases b with
  | false => cases d <;> exact f
  | true =>
    cases d with
    | lst ds =>
      rw [Fz] at f
      obtain ⟨a, us, rfl, h1, f⟩ := f
      exact ⟨a, us, rfl, SqL.of (l _ _ h1), f⟩
    | _ => exact f
theorem RepAs.of {K : PySem.W.Frag} (l : Ext G H) : ∀ {ms : List Bool} {ds : List D} {us : List V}, Fzs K G ds us → RepAs K G H ms ds us
  | ms, [], us, f => by
    rw [Fzs] at f
    exact f
  | ms, d :: ds, us, f => by
    rw [Fzs] at f
    obtain ⟨x, xs, rfl, q, r⟩ := f
    exact ⟨x, xs, rfl, RepA.of l q, RepAs.of l r⟩
def sCall (n : Nat) (m : List D → Rv) (as : Sm (List D)) : Sm O := fun e => (as e).bind fun ds e1 => if ds.length = n then (match m ds with
    | .stuck => .stuck
    | .ok d => .ok (.fz d) e1
    | .exc x => .exc x e1)
  else .stuck
theorem Rel.after {G' H' : Hp} (R : Rel c G H e σ ts vs) (h1 : Ext H H') (h2 : Ext G G') (h3 : Ext G' H') (h4 : ∀ a u, G' a = some u → G a = none → H a = none) : Rel c G' H' e σ ts vs := R.grow h1 h2 h3 h4
theorem tA_call {n : Nat} {ms : List Bool} {m : List D → Rv} {as : Sm (List D)} : ∀ σ H Q, tI c W (sCall n m as) σ H Q → tCallS (spP c.K n ms m) (WE W) (tA c W as) σ H Q := fun σ H Q ⟨G, e, ts, vs, R, h⟩ =>
  tA_seq R h fun G1 H1 us ds e1 R1 f h1 => by
    split at h1
    · rename_i hn
      refine ⟨G1, ds, hn, R1.g, RepAs.of R1.g f, ?_⟩
      cases hm : m ds with
      | stuck =>
        simp only [hm] at h1
        exact h1.elim
      | ok d =>
        simp only [hm] at h1
        exact fun G' H' v k1 k2 k3 k4 f' => h1 G' H' v ((R1.after k1 k2 k3 k4).push f')
      | exc x =>
        simp only [hm] at h1
        exact fun G' H' d k1 k2 k3 k4 f' => h1 G' H' d (R1.after k1 k2 k3 k4) f'
    · exact h1.elim
theorem qe_call {f : Addr} {fd : FuncData} {ps : List Str} {n k : Nat} {ms : List Bool} {m : List D → Rv} {x : Str} {p pos : Pos} {ex : Expr} {es : List Expr} {as : Sm (List D)} (hK : X.K = c.K) (F : FnOk X.prog X.w X.K X.mg X.base (L2.CX X.prog X.w) k f fd ps (spP X.K n ms m)) (hr : Room k X.A) (hg : Gl X x) (hm : X.mg x = some (.ref f))
    (hk : PySem.W.keepIn X.K (.ref f) = true) (hb : Binds X.K fd ps []) (tk : Takes X W) (ha : PA X (ex :: es) (tA c W as)) (hdb : (x == ("__debug__" : Str)) = false := by decide) (he : starEach (ex :: es) X.env = (false, eval ex X.env) :: starEach es X.env := by rfl) (hpl : (backTo pos (starEach es X.env)).any (·.1) = false := by rfl) :
    PE X (.Call (.Name x p) (ex :: es) [] pos) (tI c W (sCall n m as)) :=
  PE.imp (pe_callS F hr hg hm hk hb (fun σ => passAt tk σ) ha hdb he hpl) (by rw [hK]; exact tA_call)
end
end PV

namespace PV
open PySem PySem.Spec PyProof.Rows L2
section
variable {X : Cx} {c : Cl} {W : WX} {G H : Hp} {e : PV.Env} {σ : L2.St} {ts : List O} {vs : List V} {α β : Type} {D : Ends}

/-! ### statements -/
theorem OutS.push {r : Rs Fl} {o : O} {v : V} (h : OutS c W ts vs D r) : OutS c W (o :: ts) (v :: vs) D r := by
  cases r with
  | stuck => exact h
  | exc x e => exact fun G' H' σ' d R => h G' H' σ' d R.pop
  | ok f e =>
    cases f with
    | nx => exact fun G' H' σ' R => h G' H' σ' R.pop
    | rt d => exact fun G' H' σ' v R => h G' H' σ' v R.pop
    | bk => exact fun G' H' σ' R => h G' H' σ' R.pop
    | ct => exact fun G' H' σ' R => h G' H' σ' R.pop
theorem OutS.bind {r : Rs α} {k : α → PV.Env → Rs Fl} (h : OutS c W ts vs D (r.bind k)) (σ : L2.St) : Out c W σ ts vs (fun a e => OutS c W ts vs D (k a e)) r := by
  cases r with
  | stuck => exact h
  | ok a e => exact h
  | exc x e => exact fun G' H' d R => h G' H' σ d R
theorem tI_seqS {m : Sm O} {k : O → PV.Env → Rs Fl} {Q' : VK} (R : Rel c G H e σ ts vs) (h : OutS c W ts vs D ((m e).bind k)) (hk : ∀ G1 H1 v o e1, Rel c G1 H1 e1 σ (o :: ts) (v :: vs) → OutS c W ts vs D (k o e1) → Q' v H1) : tI c W m σ H Q' :=
  ⟨G, e, ts, vs, R, (h.bind σ).imp fun o e1 q G1 H1 v R1 => hk G1 H1 v o e1 R1 q⟩
theorem tT_seqS {m : Sm Bool} {k : Bool → PV.Env → Rs Fl} {Q' : Bool → Hp → Prop} (R : Rel c G H e σ ts vs) (h : OutS c W ts vs D ((m e).bind k)) (hk : ∀ G1 H1 b e1, Rel c G1 H1 e1 σ ts vs → OutS c W ts vs D (k b e1) → Q' b H1) : tT c W m σ H Q' :=
  ⟨G, e, ts, vs, R, (h.bind σ).imp fun o e1 q G1 H1 R1 => hk G1 H1 o e1 R1 q⟩
theorem tA_seqS {m : Sm (List PV.D)} {k : List PV.D → PV.Env → Rs Fl} {Q' : List V → Hp → Prop} (R : Rel c G H e σ ts vs) (h : OutS c W ts vs D ((m e).bind k)) (hk : ∀ G1 H1 us ds e1, Rel c G1 H1 e1 σ ts vs → Fzs c.K G1 ds us → OutS c W ts vs D (k ds e1) → Q' us H1) : tA c W m σ H Q' :=
  ⟨G, e, ts, vs, R, (h.bind σ).imp fun ds e1 q G1 H1 us R1 f => hk G1 H1 us ds e1 R1 f q⟩
def sSkip : Sm Fl := fun e => .ok .nx e
def sSeq (a b : Sm Fl) : Sm Fl := fun e => match a e with
  | .ok .nx e1 => b e1
  | r => r
theorem qss_nil : PSs X [] (tS c W sSkip) := PSs.imp pss_nil fun D σ H ⟨G, e, ts, vs, R, h⟩ => h G H σ R
theorem qss_one {st : Stmt} {a : Sm Fl} (h : PS X st (tS c W a)) : PSs X [st] (tS c W a) := pss_one h
theorem qss_cons {st : Stmt} {rest : List Stmt} {a b : Sm Fl} (h1 : PS X st (tS c W a)) (h2 : PSs X rest (tS c W b)) : PSs X (st :: rest) (tS c W (sSeq a b)) :=
  PSs.imp (pss_cons h1 h2) fun D σ H ⟨G, e, ts, vs, R, h⟩ => by
    refine ⟨G, e, ts, vs, R, ?_⟩
    unfold sSeq at h
    cases ha : a e with
    | stuck =>
      rw [ha] at h
      exact h
    | exc x e1 =>
      rw [ha] at h
      exact h
    | ok f e1 =>
      rw [ha] at h
      cases f with
      | nx => exact fun G' H' σ' R' => ⟨G', e1, ts, vs, R', h⟩
      | rt d => exact h
      | bk => exact h
      | ct => exact h
theorem qs_pass {pos : Pos} : PS X (.Pass pos) (tS c W sSkip) := PS.imp ps_pass fun D σ H ⟨G, e, ts, vs, R, h⟩ => h G H σ R
def sBrk : Sm Fl := fun e => .ok .bk e
def sCnt : Sm Fl := fun e => .ok .ct e
theorem qs_break {pos : Pos} : PS X (.Break pos) (tS c W sBrk) := PS.imp ps_break fun D σ H ⟨G, e, ts, vs, R, h⟩ => h G H σ R
theorem qs_continue {pos : Pos} : PS X (.Continue pos) (tS c W sCnt) := PS.imp ps_continue fun D σ H ⟨G, e, ts, vs, R, h⟩ => h G H σ R
def sSet (i : Nat) (m : Sm O) : Sm Fl := fun e => (m e).bind fun o e1 => if i < e1.length then .ok .nx (e1.set i (.o o)) else .stuck
theorem qs_set (i : Nat) {x : Str} {ex : Expr} {m : Sm O} {pos' pos : Pos} (hN : X.N.Nodup) (he : PE X ex (tI c W m)) (hi : X.N[i]? = some x := by rfl) (hx : Loc X.env.scope x := by first | exact Or.inl rfl | exact Or.inr rfl) (hs : swapsWith ex (some (.Name x pos')) pos.line X.env = pure false := by rfl) (hf : X.fn x = true ∨ X.env.scope.names.lookup x = some .local := by first | exact .inl rfl | exact .inr rfl | assumption) :
    PS X (.Assign [.Name x pos'] ex pos) (tS c W (sSet i m)) :=
  PS.imp (ps_set hN hi hx he hs hf) fun D σ H ⟨G, e, ts, vs, R, h⟩ => tI_seqS R h fun G1 H1 v o e1 R1 h1 => by
    split at h1
    · rename_i hl
      exact h1 G1 H1 _ (R1.put hl)
    · exact h1.elim
/-- a, b = x, y -/
def sPar (i j : Nat) (ms : Sm (List PV.D)) : Sm Fl := fun e => (ms e).bind fun ds e1 => match ds with
  | [d1, d2] => if i < e1.length ∧ j < e1.length then .ok .nx ((e1.set i (.o (.fz d1))).set j (.o (.fz d2))) else .stuck
  | _ => .stuck
theorem qs_par (i j : Nat) {x y : Str} {a b : Expr} {ms : Sm (List PV.D)} {px py pt pos : Pos} {kt k2 pt2} (hc : X.calm = true) (hN : X.N.Nodup) (ha : PA X [a, b] (tA c W ms)) (hw : swappedStores [.Tuple [.Name x px, .Name y py] kt pt] (.Tuple [a, b] k2 pt2) X.env = pure (some [x, y])) (hi : X.N[i]? = some x := by rfl) (hj : X.N[j]? = some y := by rfl) (hij : i ≠ j := by decide)
    (hx : X.env.scope.names.lookup x = some .local := by rfl) (hy : X.env.scope.names.lookup y = some .local := by rfl) (hs : swapsWithSole [.Tuple [.Name x px, .Name y py] kt pt] (.Tuple [a, b] k2 pt2) pos.line X.env = pure false := by rfl) :
    PS X (.Assign [.Tuple [.Name x px, .Name y py] kt pt] (.Tuple [a, b] k2 pt2) pos) (tS c W (sPar i j ms)) :=
  PS.imp (ps_par hc hN hi hj hij hx hy ha hw hs) fun D σ H ⟨G, e, ts, vs, R, h⟩ => tA_seqS R h fun G1 H1 us ds e1 R1 f h1 => by
    revert h1 f
    match ds with
    | [d1, d2] =>
      intro f h1
      obtain ⟨x, y, rfl, f1, f2⟩ := fzs2 f
      have h2 : OutS c W ts vs D (if i < e1.length ∧ j < e1.length then .ok .nx ((e1.set i (.o (.fz d1))).set j (.o (.fz d2))) else .stuck) := h1
      split at h2
      · rename_i hl
        refine ⟨x, y, rfl, h2 G1 H1 _ ?_⟩
        exact (((R1.push f1).put hl.1).push f2).put (by rw [List.length_set]; exact hl.2)
      · exact h2.elim
    | [] => exact fun _ h1 => h1.elim
    | [_] => exact fun _ h1 => h1.elim
    | _ :: _ :: _ :: _ => exact fun _ h1 => h1.elim
def sRet (m : Sm O) : Sm Fl := fun e => (m e).bind fun o e1 => .ok (.rt o.toD) e1
theorem qs_ret {ex : Expr} {m : Sm O} {pos : Pos} (he : PE X ex (tI c W m)) : PS X (.Return (some ex) pos) (tS c W (sRet m)) :=
  PS.imp (ps_ret he) fun D σ H ⟨G, e, ts, vs, R, h⟩ => tI_seqS R h fun G1 H1 v o e1 R1 h1 => by
    obtain ⟨G2, _, R2, f⟩ := R1.cool1
    exact h1 G2 H1 σ v R2 f
def sRetN : Sm Fl := fun e => .ok (.rt .non) e
theorem qs_retN {pos : Pos} : PS X (.Return none pos) (tS c W sRetN) := PS.imp ps_retN fun D σ H ⟨G, e, ts, vs, R, h⟩ => h G H σ _ R fzN
def sIf (t : Sm Bool) (a b : Sm Fl) : Sm Fl := fun e => (t e).bind fun k e1 => if k then a e1 else b e1
theorem qs_if {t : Expr} {a b : List Stmt} {mt : Sm Bool} {ma mb : Sm Fl} {pos : Pos} (ht : PT X t (tT c W mt)) (ha : PSs X a (tS c W ma)) (hb : PSs X b (tS c W mb)) : PS X (.If t a b pos) (tS c W (sIf mt ma mb)) :=
  PS.imp (ps_if ht ha hb) fun D σ H ⟨G, e, ts, vs, R, h⟩ => tT_seqS R h fun G1 H1 k e1 R1 h1 => by
    cases k with
    | true => exact ⟨G1, e1, ts, vs, R1, h1⟩
    | false => exact ⟨G1, e1, ts, vs, R1, h1⟩
def sEx (m : Sm O) : Sm Fl := fun e => (m e).bind fun _ e1 => .ok .nx e1
theorem qs_expr {ex : Expr} {m : Sm O} {pos : Pos} (he : PE X ex (tI c W m)) (hs : swapsWith ex none pos.line X.env = pure false := by rfl) : PS X (.Expr ex pos) (tS c W (sEx m)) :=
  PS.imp (ps_expr he hs) fun D σ H ⟨G, e, ts, vs, R, h⟩ => tI_seqS R h fun G1 H1 v o e1 R1 h1 => h1 G1 H1 σ R1.pop

/-! ### x.append(e) on a list of one's own -/
theorem Ows.app1 {K : PySem.W.Frag} : ∀ {os : List O} {us : List V} {f : List Addr} {d : PV.D} {y : V}, Ows K G H os us f → Fz K G d y → Ows K G H (os ++ [.fz d]) (us ++ [y]) f
  | [], us, f, d, y, h, k => by
    rw [Ows] at h
    rw [h.1, h.2, List.nil_append, List.nil_append, Ows]
    exact ⟨y, [], [], [], rfl, Ow.fz k, by rw [Ows]; exact ⟨rfl, rfl⟩, rfl⟩
  | o :: os, us, f, d, y, h, k => by
    rw [Ows] at h
    obtain ⟨x, xs, f1, f2, rfl, q, r, rfl⟩ := h
    rw [List.cons_append, Ows]
    exact ⟨x, xs ++ [y], f1, f2, rfl, q, Ows.app1 r k, rfl⟩
theorem Rel.appT {os : List O} {a : Addr} {d : PV.D} {y : V} (R : Rel c G H e σ (.lst os :: ts) (.ref a :: vs)) (f : Fz c.K G d y) :
    ∃ us, H a = some (.lst us) ∧ us.length = os.length ∧ Rel c G (upd H a (.lst (us ++ [y]))) e σ (.lst (os ++ [.fz d]) :: ts) (.ref a :: vs) := by
  obtain ⟨fe, ft, h1, ⟨f1, f2, rfl, q, r⟩, nd, out⟩ := id R.rep
  rw [Ow] at q
  obtain ⟨a', us, g, e', ha, r', rfl⟩ := q
  cases e'
  refine ⟨us, ha, r'.len.symm, R.edit (os := [.lst (os ++ [.fz d])]) (ws := [.ref a]) fun f1 q nd1 => ?_⟩
  rw [Ow] at q
  obtain ⟨a', us', g', e', ha', r'', rfl⟩ := q
  cases e'
  rw [ha] at ha'
  cases ha'
  have na : a ∉ g' := (List.nodup_cons.mp nd1).1
  refine ⟨fun b hb => upd_ne fun z => hb (by rw [z]; exact List.mem_cons_self), a :: g', ⟨a :: g', [], by simp, ?_, rfl⟩, nd1, fun b hb => hb⟩
  rw [Ow]
  refine ⟨a, us ++ [y], g', rfl, upd_same, ?_, rfl⟩
  exact Ows.mono (Ext.refl G) _ _ _ (r''.app1 f) fun b hb => upd_ne fun z => na (by rw [← z]; exact hb)
def sApp (i : Nat) (m : Sm O) : Sm Fl := fun e => match e[i]? with
  | some (.o (.lst _)) => (m e).bind fun o e1 => match e1[i]? with
    | some (.o (.lst os)) => if os.length < sizeLine then .ok .nx (e1.set i (.o (.lst (os ++ [.fz o.toD])))) else .stuck
    | _ => .stuck
  | _ => .stuck
theorem Rel.lstAt {os : List O} (R : Rel c G H e σ ts vs) {i : Nat} (h : e[i]? = some (.o (.lst os))) : ∃ a us, σ[i]? = some (some (.ref a)) ∧ H a = some (.lst us) := by
  obtain ⟨v, fp, hv, x, rfl, r⟩ := R.peek h
  rw [Ow] at r
  obtain ⟨a, us, f, rfl, ha, _⟩ := r
  exact ⟨a, us, hv, ha⟩
/-- in a slot -/
theorem Rel.appV {os : List O} {d : PV.D} {y : V} (R : Rel c G H e σ ts vs) {i : Nat} (h : e[i]? = some (.o (.lst os))) (f : Fz c.K G d y) :
    ∃ a us, σ[i]? = some (some (.ref a)) ∧ H a = some (.lst us) ∧ us.length = os.length ∧ Rel c G (upd H a (.lst (us ++ [y]))) (e.set i (.o (.lst (os ++ [.fz d])))) σ ts vs := by
  obtain ⟨v, hv, R1⟩ := R.take h
  obtain ⟨a, us, hv', ha⟩ := R.lstAt h
  rw [hv] at hv'
  cases hv'
  obtain ⟨us, h1, h2, R2⟩ := R1.appT f
  have R3 := R2.put (i := i) (by rw [List.length_set]; exact (List.getElem?_eq_some_iff.mp h).1)
  rw [List.set_set, set_self hv] at R3
  exact ⟨a, us, hv, h1, h2, R3⟩
theorem qs_app (i : Nat) {x : Str} {ex : Expr} {m : Sm O} {p ap cp pos : Pos} (ho : PE X (.Name x p) (tVar i)) (he : PE X ex (tI c W m))
    (hbase : attributeBase (.Name x p) "append" X.env (eval (.Name x p) X.env) = eval (.Name x p) X.env := by rfl)
    (hfew : ((backTo cp (starEach [ex] X.env)).all (fun x => !x.1) && (backToKw cp (keywordEach [] X.env)).all (fun x => x.1.isSome) && decide ([ex].length + ([] : List Keyword).length + (if ([] : List Keyword).isEmpty then 0 else 1) < 30)) = true := by rfl)
    (hline : (ap.endLine == cp.line) = true := by rfl) (hs : starEach [ex] X.env = (false, eval ex X.env) :: starEach [] X.env := by rfl) (hpl : (backTo cp (starEach [] X.env)).any (·.1) = false := by rfl)
    (hsw : swapsWith (.Call (.Attribute (.Name x p) "append" ap) [ex] [] cp) none pos.line X.env = pure false := by rfl) :
    PS X (.Expr (.Call (.Attribute (.Name x p) "append" ap) [ex] [] cp) pos) (tS c W (sApp i m)) :=
  PS.imp (ps_expr (pe_bm PySem.F.plainAttrs_list PySem.F.slot_list_append PySem.F.type_list_append mt_append ho (pa_cons he pa_nil hs) hbase hfew hline hs hpl) hsw) fun D σ H ⟨G, e, ts, vs, R, h⟩ => by
    unfold sApp at h
    split at h
    · rename_i os0 h0
      obtain ⟨a, us0, hσ, ha⟩ := R.lstAt h0
      refine ⟨_, hσ, .inl ⟨rfl, _, SqL.of ha⟩, tI_seqS R h fun G1 H1 v o e1 R1 h1 => ?_⟩
      split at h1
      · rename_i os hos
        split at h1
        · rename_i hl
          obtain ⟨G2, _, R2, f⟩ := R1.cool1
          obtain ⟨a', us, hσ', ha', hlen, R3⟩ := R2.appV hos f
          rw [hσ] at hσ'
          cases hσ'
          exact ⟨a, us, v, rfl, rfl, ha', by rw [hlen]; exact hl, h1 G2 _ σ R3⟩
        · exact h1.elim
      · exact h1.elim
    · exact h.elim

/-! ### raise of an own error with fields -/
def sRaise (cn : Str) (fl : List Str) (ms : Sm (List PV.D)) : Sm Fl := fun e => (ms e).bind fun ds e1 => if ds.length = fl.length then .exc ⟨cn, fl, ds⟩ e1 else .stuck

/-! ### for -/
/-- what an iterator yields: ds, while hd at v holds -/
structure JOk (c : Cl) (J : It) (ds : List PV.D) (hd : PV.D) (v : V) : Prop where
  go : ∀ {G H : Hp} {e : PV.Env} {σ : L2.St} {ts : List O} {vs : List V} (i : Nat), Rel c G H e σ ts vs → Fz c.K G hd v → i < ds.length → J.go i H
  stop : ∀ {G H : Hp} {e : PV.Env} {σ : L2.St} {ts : List O} {vs : List V}, Rel c G H e σ ts vs → Fz c.K G hd v → J.stop ds.length H
  yld : ∀ {G H : Hp} {e : PV.Env} {σ : L2.St} {ts : List O} {vs : List V} {x : V} {H' : Hp} (i : Nat), Rel c G H e σ ts vs → Fz c.K G hd v → i < ds.length → J.yld i H x H' → ∃ G' d, ds[i]? = some d ∧ Rel c G' H' e σ ts vs ∧ Fz c.K G' d x
abbrev Its := List PV.D × PV.D
def tIt (c : Cl) (W : WX) (m : Sm Its) : TI := fun σ H Rr => ∃ G e ts vs, Rel c G H e σ ts vs ∧ Out c W σ ts vs (fun p e' => ∀ G' H' v J, Rel c G' H' e' σ (.fz p.2 :: ts) (v :: vs) → JOk c J p.1 p.2 v → Rr J H') (m e)
theorem PI.imp {tg iter : Expr} {t t' : TI} (P : PI X tg iter t) (h : ∀ σ H R, t' σ H R → t σ H R) : PI X tg iter t' := ⟨fun pins s σ H R I q => P.run pins s σ H R I (h σ H R q)⟩
/-- the target: what a new item does to the slots -/
def PutOk (c : Cl) (g : TG) (put : PV.D → PV.Env → Option PV.Env) : Prop := ∀ {G H : Hp} {e : PV.Env} {σ : L2.St} {ts : List O} {vs : List V} {d : PV.D} {x : V} {e1 : PV.Env} {Q : L2.St → Hp → Prop}, Rel c G H e σ ts vs → Fz c.K G d x → put d e = some e1 →
  (∀ G' H' σ', Rel c G' H' e1 σ' ts vs → Q σ' H') → g x σ H Q
def putV (i : Nat) : PV.D → PV.Env → Option PV.Env := fun d e => if i < e.length then some (e.set i (.o (.fz d))) else none
theorem putV_ok (i : Nat) : PutOk c (gName i) (putV i) := by
  intro G H e σ ts vs d x e1 Q R f hp k
  unfold putV at hp
  split at hp
  · rename_i hl
    cases hp
    exact k G H _ ((R.push f).put hl)
  · cases hp
def loopF (put : PV.D → PV.Env → Option PV.Env) (body : Sm Fl) : List PV.D → Sm Fl
  | [], e => .ok .nx e
  | d :: ds, e => match put d e with
    | none => .stuck
    | some e1 => match body e1 with
      | .ok .nx e2 => loopF put body ds e2
      | .ok .ct e2 => loopF put body ds e2
      | .ok .bk e2 => .ok .nx e2
      | .ok (.rt d) e2 => .ok (.rt d) e2
      | .exc x e2 => .exc x e2
      | .stuck => .stuck
def sFor (it : Sm Its) (put : PV.D → PV.Env → Option PV.Env) (body : Sm Fl) : Sm Fl := fun e => (it e).bind fun p e1 => loopF put body p.1 e1
theorem tIt_seqS {m : Sm Its} {k : Its → PV.Env → Rs Fl} {Rr : It → Hp → Prop} (R : Rel c G H e σ ts vs) (h : OutS c W ts vs D ((m e).bind k)) (hk : ∀ G1 H1 v J p e1, Rel c G1 H1 e1 σ (.fz p.2 :: ts) (v :: vs) → JOk c J p.1 p.2 v → OutS c W ts vs D (k p e1) → Rr J H1) : tIt c W m σ H Rr :=
  ⟨G, e, ts, vs, R, (h.bind σ).imp fun p e1 q G1 H1 v J R1 j => hk G1 H1 v J p e1 R1 j q⟩
theorem qs_for {tg iter : Expr} {body : List Stmt} {it : Sm Its} {g : TG} {put : PV.D → PV.Env → Option PV.Env} {mb : Sm Fl} {pos : Pos} (hp : PassesOwn (model X.prog X.w) X.A X.env X.xe) (hc : X.calm = true) (hi : PI X tg iter (tIt c W it)) (hg : PG X tg g) (hput : PutOk c g put) (hb : PSs X body (tS c W mb))
    (hs : ∀ x, foldedSetIterable iter X.env x = pure x := by intro _; rfl) : PS X (.For tg iter body [] pos) (tS c W (sFor it put mb)) :=
  PS.imp (ps_for hp hc hi hg hb hs) fun D σ H ⟨G, e, ts, vs, R, h⟩ => by
    refine tIt_seqS R h fun G1 H1 v J p e1 R1 j h1 => ?_
    obtain ⟨ds, hd⟩ := p
    have h1 : OutS c W ts vs D (loopF put mb ds e1) := h1
    refine ⟨fun i m σ' H' => m = ds.length - i ∧ i ≤ ds.length ∧ ∃ G' e', Rel c G' H' e' σ' (.fz hd :: ts) (v :: vs) ∧ OutS c W ts vs D (loopF put mb (ds.drop i) e'), ⟨_, rfl, Nat.zero_le _, G1, e1, R1, by rw [List.drop_zero]; exact h1⟩, ?_⟩
    rintro i m σ' H' ⟨rfl, hi, G', e', R', h'⟩
    by_cases hlt : i < ds.length
    · refine .inr ⟨j.go i R' R'.fz hlt, fun σ2 H2 => ∃ G2 e2, Rel c G2 H2 e2 σ2 (.fz hd :: ts) (v :: vs) ∧ OutS c W ts vs D (loopF put mb (ds.drop (i + 1)) e2), fun σ2 H2 q => ⟨ds.length - (i + 1), by omega, rfl, hlt, q⟩, fun x H2 y => ?_⟩
      obtain ⟨G2, d, hd', R2, f⟩ := j.yld i R' R'.fz hlt y
      have ed : ds.drop i = d :: ds.drop (i + 1) := by
        rw [List.drop_eq_getElem_cons hlt]
        congr 1
        rw [List.getElem?_eq_getElem hlt] at hd'
        exact Option.some.inj hd'
      rw [ed] at h'
      unfold loopF at h'
      cases hpd : put d e' with
      | none =>
        rw [hpd] at h'
        exact h'.elim
      | some e3 =>
        rw [hpd] at h'
        refine hput R2 f hpd fun G3 H3 σ3 R3 => ⟨G3, e3, _, _, R3, ?_⟩
        have h' : OutS c W ts vs D (match mb e3 with
          | .ok .nx e2 => loopF put mb (ds.drop (i + 1)) e2
          | .ok .ct e2 => loopF put mb (ds.drop (i + 1)) e2
          | .ok .bk e2 => .ok .nx e2
          | .ok (.rt d) e2 => .ok (.rt d) e2
          | .exc x e2 => .exc x e2
          | .stuck => .stuck) := h'
        cases hb3 : mb e3 with
        | stuck =>
          rw [hb3] at h'
          exact h'.elim
        | exc x e4 =>
          rw [hb3] at h'
          exact fun G4 H4 σ4 dd R4 => h' G4 H4 σ4 dd R4.pop
        | ok fl e4 =>
          rw [hb3] at h'
          cases fl with
          | nx => exact fun G4 H4 σ4 R4 => ⟨G4, e4, R4, h'⟩
          | ct => exact fun G4 H4 σ4 R4 => ⟨G4, e4, R4, h'⟩
          | bk => exact fun G4 H4 σ4 R4 => h' G4 H4 σ4 R4.pop
          | rt d => exact fun G4 H4 σ4 v4 R4 => h' G4 H4 σ4 v4 R4.pop
    · have e0 : i = ds.length := by omega
      subst e0
      rw [List.drop_length] at h'
      exact .inl ⟨j.stop R' R'.fz, h' G' H' σ' R'.pop⟩
/-- range(n) -/
def rngD (lo : Int) (n : Nat) : List PV.D := (List.range n).map fun (k : Nat) => PV.D.int (lo + (k : Int))
def sRng1 (ms : Sm (List PV.D)) : Sm Its := fun e => (ms e).bind fun ds e1 => match ds with
  | [.int j] => if -(2 ^ 62) ≤ j ∧ j < 2 ^ 62 then .ok (rngD 0 j.toNat, .non) e1 else .stuck
  | _ => .stuck
def sRng2 (ms : Sm (List PV.D)) : Sm Its := fun e => (ms e).bind fun ds e1 => match ds with
  | [.int i, .int j] => if -(2 ^ 62) ≤ i ∧ i < 2 ^ 62 ∧ -(2 ^ 62) ≤ j ∧ j < 2 ^ 62 then .ok (rngD i (j - i).toNat, .non) e1 else .stuck
  | _ => .stuck
theorem jok_range (lo : Int) (n : Nat) (v : V) : JOk c (Itr lo n) (rngD lo n) .non v where
  go := fun i R f h => by
    unfold rngD at h
    rw [List.length_map, List.length_range] at h
    exact h
  stop := fun R f => by
    unfold rngD
    rw [List.length_map, List.length_range]
    exact Nat.le_refl n
  yld := fun {G H e σ ts vs x H'} i R f h y => by
    obtain ⟨rfl, rfl⟩ := y
    unfold rngD at h
    rw [List.length_map, List.length_range] at h
    refine ⟨G, .int (lo + i), ?_, R, fzI⟩
    unfold rngD
    rw [List.getElem?_map, List.getElem?_range h]
    rfl
theorem Out.bindP {P : β → PV.Env → Prop} {r : Rs α} {k : α → PV.Env → Rs β} (h : Out c W σ ts vs P (r.bind k)) : Out c W σ ts vs (fun a e => Out c W σ ts vs P (k a e)) r := h.bind
theorem qi_range1 {tg a : Expr} {ms : Sm (List PV.D)} {p pos : Pos} (hg : Gl X "range") (hm : X.mg "range" = none) (ha : PA X [a] (tA c W ms)) (hs : starEach [a] X.env = [(false, eval a X.env)] := by rfl) : PI X tg (.Call (.Name "range" p) [a] [] pos) (tIt c W (sRng1 ms)) :=
  PI.imp (pi_range1 hg hm ha hs) fun σ H Rr ⟨G, e, ts, vs, R, h⟩ => tA_seq R h fun G1 H1 us ds e1 R1 f h1 => by
    match ds, h1, f with
    | [.int j], h1, f =>
      obtain ⟨x, rfl, f1⟩ := fzs1 f
      have h2 : Out c W σ ts vs _ (if -(2 ^ 62) ≤ j ∧ j < 2 ^ 62 then Rs.ok ((rngD 0 j.toNat, PV.D.non) : Its) e1 else .stuck) := h1
      split at h2
      · rename_i hb
        exact ⟨j, by rw [f1.int], hb.1, hb.2, h2 G1 H1 .non _ (R1.push fzN) (jok_range 0 _ _)⟩
      · exact h2.elim
theorem qi_range2 {tg a b : Expr} {ms : Sm (List PV.D)} {p pos : Pos} (hg : Gl X "range") (hm : X.mg "range" = none) (ha : PA X [a, b] (tA c W ms)) (hs : starEach [a, b] X.env = [(false, eval a X.env), (false, eval b X.env)] := by rfl) (hs2 : starEach [b] X.env = [(false, eval b X.env)] := by rfl) : PI X tg (.Call (.Name "range" p) [a, b] [] pos) (tIt c W (sRng2 ms)) :=
  PI.imp (pi_range2 hg hm ha hs hs2) fun σ H Rr ⟨G, e, ts, vs, R, h⟩ => tA_seq R h fun G1 H1 us ds e1 R1 f h1 => by
    match ds, h1, f with
    | [.int i, .int j], h1, f =>
      obtain ⟨x, y, rfl, f1, f2⟩ := fzs2 f
      have h2 : Out c W σ ts vs _ (if -(2 ^ 62) ≤ i ∧ i < 2 ^ 62 ∧ -(2 ^ 62) ≤ j ∧ j < 2 ^ 62 then Rs.ok ((rngD i (j - i).toNat, PV.D.non) : Its) e1 else .stuck) := h1
      split at h2
      · rename_i hb
        exact ⟨i, j, by rw [f1.int, f2.int], hb, h2 G1 H1 .non _ (R1.push fzN) (jok_range _ _ _)⟩
      · exact h2.elim
/-- a list, a tuple -/
def sItL (m : Sm O) : Sm Its := fun e => (m e).bind fun o e1 => match o.toD with
  | .lst ds => .ok (ds, .lst ds) e1
  | .scr ns => .ok (ns.map .int, .scr ns) e1
  | _ => .stuck
def sItT (m : Sm O) : Sm Its := fun e => (m e).bind fun o e1 => match o.toD with
  | .tup ds => .ok (ds, .tup ds) e1
  | _ => .stuck
theorem jok_list {K : PySem.W.Frag} (hK : K = c.K) {ds : List PV.D} {a : Addr} {hd : PV.D} (h : ∀ {G H : Hp}, Ext G H → Fz c.K G hd (.ref a) → ∃ us, SqL c.K H a us ∧ us.length = ds.length ∧ ∀ (i : Nat) (v : V), us[i]? = some v → ∃ d, ds[i]? = some d ∧ Fz c.K G d v) : JOk c (Itl K a) ds hd (.ref a) where
  go := fun i R f hi => by
    obtain ⟨us, q, hl, _⟩ := h R.g f
    rw [hK]
    exact ⟨us, us[i]'(by omega), q, by simp [show i < us.length by omega]⟩
  stop := fun R f => by
    obtain ⟨us, q, hl, _⟩ := h R.g f
    rw [hK]
    exact ⟨us, q, by omega⟩
  yld := fun {G H e σ ts vs x H'} i R f hi y => by
    obtain ⟨us, q, hl, k⟩ := h R.g f
    obtain ⟨rfl, y⟩ := y
    obtain ⟨d, h1, h2⟩ := k i x (y us (by rw [hK]; exact q))
    exact ⟨G, d, h1, R, h2⟩
theorem jok_tup {K : PySem.W.Frag} (hK : K = c.K) {ds : List PV.D} {a : Addr} {hd : PV.D} (h : ∀ {G H : Hp}, Ext G H → Fz c.K G hd (.ref a) → ∃ us, SqT c.K H a us ∧ us.length = ds.length ∧ ∀ (i : Nat) (v : V), us[i]? = some v → ∃ d, ds[i]? = some d ∧ Fz c.K G d v) : JOk c (Itt K a) ds hd (.ref a) where
  go := fun i R f hi => by
    obtain ⟨us, q, hl, _⟩ := h R.g f
    rw [hK]
    exact ⟨us, us[i]'(by omega), q, by simp [show i < us.length by omega]⟩
  stop := fun R f => by
    obtain ⟨us, q, hl, _⟩ := h R.g f
    rw [hK]
    exact ⟨us, q, by omega⟩
  yld := fun {G H e σ ts vs x H'} i R f hi y => by
    obtain ⟨us, q, hl, k⟩ := h R.g f
    obtain ⟨rfl, y⟩ := y
    obtain ⟨d, h1, h2⟩ := k i x (y us (by rw [hK]; exact q))
    exact ⟨G, d, h1, R, h2⟩
theorem Fzs.back {K : PySem.W.Frag} {ds : List PV.D} {us : List V} (f : Fzs K G ds us) (i : Nat) (v : V) (h : us[i]? = some v) : ∃ d, ds[i]? = some d ∧ Fz K G d v := by
  have hi : i < ds.length := by
    rw [f.len]
    exact (List.getElem?_eq_some_iff.mp h).1
  obtain ⟨w, h1, h2⟩ := f.get (List.getElem?_eq_getElem hi)
  rw [h] at h1
  cases h1
  exact ⟨_, List.getElem?_eq_getElem hi, h2⟩
theorem qi_list {tg a : Expr} {m : Sm O} (hK : X.K = c.K) (ha : PE X a (tI c W m)) : PI X tg a (tIt c W (sItL m)) :=
  PI.imp (pi_list ha) fun σ H Rr ⟨G, e, ts, vs, R, h⟩ => tI_seq R h fun G1 H1 v o e1 R1 h1 => by
    obtain ⟨G2, _, R2, f⟩ := R1.cool1
    cases hd : o.toD with
    | lst ds =>
      simp only [hd] at h1
      rw [hd] at f
      have f0 := f
      rw [Fz] at f
      obtain ⟨a, us, rfl, q, r⟩ := f
      refine ⟨a, rfl, ⟨us, SqL.of (R2.g _ _ q)⟩, h1 G2 H1 (.ref a) _ (R2.push f0) (jok_list hK fun {G H} l f => ?_)⟩
      rw [Fz] at f
      obtain ⟨a', us, e', q, r⟩ := f
      cases e'
      exact ⟨us, SqL.of (l _ _ q), r.len.symm, r.back⟩
    | scr ns =>
      simp only [hd] at h1
      rw [hd] at f
      have f0 := f
      rw [Fz] at f
      obtain ⟨a, rfl, q⟩ := f
      refine ⟨a, rfl, ⟨_, by rw [hK]; exact R2.g.le.sqL q⟩, h1 G2 H1 (.ref a) _ (R2.push f0) (jok_list hK fun {G H} l f => ?_)⟩
      rw [Fz] at f
      obtain ⟨a', e', q⟩ := f
      cases e'
      refine ⟨_, l.le.sqL q, by simp, fun i v hv => ?_⟩
      rw [List.getElem?_map] at hv ⊢
      obtain ⟨n, h1, rfl⟩ := Option.map_eq_some_iff.mp hv
      exact ⟨.int n, by rw [h1]; rfl, fzI⟩
    | _ =>
      simp only [hd] at h1
      exact h1.elim
theorem qi_tup {tg a : Expr} {m : Sm O} (hK : X.K = c.K) (ha : PE X a (tI c W m)) : PI X tg a (tIt c W (sItT m)) :=
  PI.imp (pi_tup ha) fun σ H Rr ⟨G, e, ts, vs, R, h⟩ => tI_seq R h fun G1 H1 v o e1 R1 h1 => by
    obtain ⟨G2, _, R2, f⟩ := R1.cool1
    cases hd : o.toD with
    | tup ds =>
      simp only [hd] at h1
      rw [hd] at f
      have f0 := f
      rw [Fz] at f
      obtain ⟨a, us, rfl, q, r⟩ := f
      refine ⟨a, rfl, ⟨us, by rw [hK]; exact R2.g.le.sqT q⟩, h1 G2 H1 (.ref a) _ (R2.push f0) (jok_tup hK fun {G H} l f => ?_)⟩
      rw [Fz] at f
      obtain ⟨a', us, e', q, r⟩ := f
      cases e'
      exact ⟨us, l.le.sqT q, r.len.symm, r.back⟩
    | _ =>
      simp only [hd] at h1
      exact h1.elim

/-- a list or a tuple -/
def sItA (m : Sm O) : Sm Its := fun e => (m e).bind fun o e1 => match o.toD with
  | .lst ds => .ok (ds, .lst ds) e1
  | .scr ns => .ok (ns.map .int, .scr ns) e1
  | .tup ds => .ok (ds, .tup ds) e1
  | _ => .stuck
theorem qi_any {tg a : Expr} {m : Sm O} (hK : X.K = c.K) (ha : PE X a (tI c W m)) : PI X tg a (tIt c W (sItA m)) := by
  refine ⟨fun pins s σ H Rr I ⟨G, e, ts, vs, R, h⟩ => ?_⟩
  have hL := (qi_list (tg := tg) hK ha).run pins s σ H Rr I
  have hT := (qi_tup (tg := tg) hK ha).run pins s σ H Rr I
  unfold sItA at h
  cases hm : m e with
  | stuck =>
    rw [hm] at h
    exact h.elim
  | exc x e1 =>
    refine hL ⟨G, e, ts, vs, R, ?_⟩
    unfold sItL
    rw [hm] at h ⊢
    exact h
  | ok o e1 =>
    cases ho : o.toD with
    | tup ds =>
      refine hT ⟨G, e, ts, vs, R, ?_⟩
      unfold sItT
      rw [hm] at h ⊢
      simp only [Rs.bind, ho] at h ⊢
      exact h
    | _ =>
      refine hL ⟨G, e, ts, vs, R, ?_⟩
      unfold sItL
      rw [hm] at h ⊢
      simp only [Rs.bind, ho] at h ⊢
      exact h

/-! ### while -/
def loopW (t : Sm Bool) (body : Sm Fl) : Nat → Sm Fl
  | 0, _ => .stuck
  | n + 1, e => (t e).bind fun b e1 => if b then (match body e1 with
      | .ok .nx e2 => loopW t body n e2
      | .ok .ct e2 => loopW t body n e2
      | .ok .bk e2 => .ok .nx e2
      | .ok (.rt d) e2 => .ok (.rt d) e2
      | .exc x e2 => .exc x e2
      | .stuck => .stuck)
    else .ok .nx e1
theorem qs_while {t : Expr} {body : List Stmt} {mt : Sm Bool} {mb : Sm Fl} {pos : Pos} (n : Nat) (hp : PassesOwn (model X.prog X.w) X.A X.env X.xe) (ht : PT X t (tT c W mt)) (hb : PSs X body (tS c W mb)) : PS X (.While t body [] pos) (tS c W (loopW mt mb n)) :=
  PS.imp (ps_while hp ht hb) fun D σ H ⟨G, e, ts, vs, R, h⟩ => by
    refine ⟨fun m σ' H' => ∃ G' e', Rel c G' H' e' σ' ts vs ∧ OutS c W ts vs D (loopW mt mb m e'), ⟨n, G, e, R, h⟩, ?_⟩
    rintro m σ' H' ⟨G', e', R', h'⟩
    cases m with
    | zero => exact h'.elim
    | succ m =>
      refine tT_seqS R' h' fun G1 H1 b e1 R1 h1 => ?_
      cases b with
      | false => exact h1 G1 H1 σ' R1
      | true =>
        refine ⟨fun σ2 H2 => ∃ G2 e2, Rel c G2 H2 e2 σ2 ts vs ∧ OutS c W ts vs D (loopW mt mb m e2), fun σ2 H2 q => ⟨m, Nat.lt_succ_self m, q⟩, G1, e1, ts, vs, R1, ?_⟩
        have h1 : OutS c W ts vs D (match mb e1 with
          | .ok .nx e2 => loopW mt mb m e2
          | .ok .ct e2 => loopW mt mb m e2
          | .ok .bk e2 => .ok .nx e2
          | .ok (.rt d) e2 => .ok (.rt d) e2
          | .exc x e2 => .exc x e2
          | .stuck => .stuck) := h1
        cases hb3 : mb e1 with
        | stuck =>
          rw [hb3] at h1
          exact h1.elim
        | exc x e4 =>
          rw [hb3] at h1
          exact h1
        | ok fl e4 =>
          rw [hb3] at h1
          cases fl with
          | nx => exact fun G4 H4 σ4 R4 => ⟨G4, e4, R4, h1⟩
          | ct => exact fun G4 H4 σ4 R4 => ⟨G4, e4, R4, h1⟩
          | bk => exact h1
          | rt d => exact h1
end
end PV

namespace PV
open PySem PySem.Spec PyProof.Rows L2
section
variable {X : Cx} {c : Cl} {W : WX} {G H : Hp} {e : PV.Env} {σ : L2.St} {ts : List O} {vs : List V} {α β : Type} {D : Ends}

/-! ### raise of an own error with fields -/
theorem Rel.laidX (R : Rel c G H e σ ts vs) {p : Addr} (u : HO) (hp : H p = none) : Rel c G (upd H p u) e σ ts vs :=
  R.grow (Ext.new hp) (Ext.refl G) (fun a w h => Ext.new hp a w (R.g a w h)) fun a w h n => by
    rw [n] at h
    cases h
theorem Fzs.revd {K : PySem.W.Frag} {ds : List PV.D} {us : List V} (f : Fzs K G ds us) : ds.length = us.length := f.len
theorem qs_raise {x : Str} {fl ps : List Str} {fI : Addr} {k : Nat} {fd : FuncData} {ex : Expr} {es : List Expr} {ms : Sm (List PV.D)} {p p2 pos : Pos} (hK : X.K = c.K) (hc : X.calm = true) (tk : Takes X W) (hfl : fl.length ≤ 100) (T : ExcT X.K (He.ga X.K x)) (iC : PySem.W.findIn X.K (.ref (He.ga X.K x)) "__init__" = some (some (.ref fI)))
    (tI : PySem.W.typeIn X.K (.ref fI) = some (.type "function")) (F1 : FnOk X.prog X.w X.K X.mg X.base (L2.CX X.prog X.w) k fI fd ps (spEx X.K (He.ga X.K x) fl)) (hr : Room (k + 1) X.A) (hb : Binds X.K fd ps []) (hg : Gl X x) (hm : X.mg x = some (.ref (He.ga X.K x))) (ha : PA X (ex :: es) (tA c W ms))
    (hdb : (x == ("__debug__" : Str)) = false := by decide) (he : starEach (ex :: es) X.env = (false, eval ex X.env) :: starEach es X.env := by rfl) (hpl : (backTo p2 (starEach es X.env)).any (·.1) = false := by rfl) :
    PS X (.Raise (some (.Call (.Name x p) (ex :: es) [] p2)) none pos) (tS c W (sRaise x fl ms)) :=
  PS.imp (ps_raise hc tk (pmk_ex T iC tI F1 hr hb passL hg hm ha hdb he hpl)) fun D σ H ⟨G, e, ts, vs, R, h⟩ => tA_seqS R h fun G1 H1 us ds e1 R1 f h1 => by
    split at h1
    · rename_i hl
      refine mkO_of (Q := fun cls d H' => W cls d σ H') (by rw [← f.len, hl]) hfl fun d hd => ?_
      rw [hK]
      refine h1 G1 _ σ (some d) (R1.laidX _ hd) (.inr ⟨d, us, rfl, upd_same, by rw [← f.len, hl], f⟩)
    · exact h1.elim

/-! ### list comprehensions -/
theorem Rel.pop2 {o p : O} {v w : V} (R : Rel c G H e σ (o :: p :: ts) (v :: w :: vs)) : Rel c G H e σ (o :: ts) (v :: vs) := by
  obtain ⟨fe, ft, h1, ⟨f1, f2, rfl, q, g1, g2, rfl, y, z⟩, nd, out⟩ := R.rep
  have sub : (fe ++ (f1 ++ g2)).Sublist (fe ++ (f1 ++ (g1 ++ g2))) := List.Sublist.append_left (List.Sublist.append_left (List.sublist_append_right g1 g2) f1) fe
  exact ⟨R.h0, R.g, R.g0, R.fr, R.hx, fe, f1 ++ g2, h1, ⟨f1, g2, rfl, q, z⟩, nd.sublist sub, fun a ha => out a (sub.subset ha)⟩
def sYes : Sm Bool := fun e => .ok true e
theorem PTs.imp {ex : List Expr} {t t' : TT} (P : PTs X ex t) (h : ∀ σ H Q, t' σ H Q → t σ H Q) : PTs X ex t' := ⟨fun pins s σ H Q I q => P.run pins s σ H Q I (h σ H Q q)⟩
theorem qts_nil : PTs X [] (tT c W sYes) := PTs.imp pts_nil fun σ H Q ⟨G, e, ts, vs, R, h⟩ => h G H R
theorem qts_one {a : Expr} {t : Sm Bool} (h : PT X a (tT c W t)) : PTs X [a] (tT c W t) := pts_one h
abbrev Wf : WX := fun _ _ _ _ => False
def loopC (i : Nat) (t : Sm Bool) (el : Sm O) : List PV.D → List PV.D → Sm (List PV.D)
  | [], acc, e => .ok acc e
  | d :: ds, acc, e => if i < e.length then (match t (e.set i (.o (.fz d))) with
      | .ok true e1 => (match el e1 with
        | .ok o e2 => if acc.length < sizeLine then loopC i t el ds (acc ++ [o.toD]) (e2.set i .un) else .stuck
        | _ => .stuck)
      | .ok false e1 => loopC i t el ds acc (e1.set i .un)
      | _ => .stuck)
    else .stuck
def sComp (i : Nat) (it : Sm Its) (t : Sm Bool) (el : Sm O) : Sm O := fun e => (it e).bind fun p e1 => match loopC i t el p.1 [] (e1.set i .un) with
  | .ok acc e2 => .ok (.lst (acc.map .fz)) e2
  | _ => .stuck
theorem RepE.slen {fp : List Addr} (h : RepE c G H e σ fp) : e.length = σ.length := h.len
theorem Rel.elen (R : Rel c G H e σ ts vs) : e.length = σ.length := by
  obtain ⟨fe, ft, h1, _⟩ := R.rep
  exact h1.len
theorem set_get {α : Type} (l : List α) (i : Nat) (x y : α) (h : l[i]? = some y) : (l.set i x).set i y = l := by
  rw [List.set_set, set_self h]
/-- what the loop of a comprehension leaves to be shown -/
def OutC (c : Cl) (σ : L2.St) (hd : PV.D) (v : V) (ts : List O) (vs : List V) (L : Addr) (Q : VK) : Rs (List PV.D) → Prop
  | .ok acc e' => ∀ G' H', Rel c G' H' e' σ (.lst (acc.map .fz) :: .fz hd :: ts) (.ref L :: v :: vs) → Q (.ref L) H'
  | _ => False
theorem tIt_seq {m : Sm Its} {k : Its → PV.Env → Rs β} {P : β → PV.Env → Prop} {Rr : It → Hp → Prop} (R : Rel c G H e σ ts vs) (h : Out c W σ ts vs P ((m e).bind k)) (hk : ∀ G1 H1 v J p e1, Rel c G1 H1 e1 σ (.fz p.2 :: ts) (v :: vs) → JOk c J p.1 p.2 v → Out c W σ ts vs P (k p e1) → Rr J H1) : tIt c W m σ H Rr :=
  ⟨G, e, ts, vs, R, h.bind.imp fun p e1 q G1 H1 v J R1 j => hk G1 H1 v J p e1 R1 j q⟩
theorem tLc_of {i : Nat} {it : Sm Its} {t : Sm Bool} {el : Sm O} : ∀ σ H Q, tI c W (sComp i it t el) σ H Q → tLc (tIt c W it) (gName i) (tT c Wf t) (tI c Wf el) [i] σ H Q := fun σ H Q ⟨G, e, ts, vs, R, h⟩ => by
  refine tIt_seq R h fun G1 H1 v J p e1 R1 j h1 L hL => ?_
  obtain ⟨ds, hd⟩ := p
  have hO : OutC c σ hd v ts vs L Q (loopC i t el ds [] (e1.set i .un)) := by
    have h1 : Out c W σ ts vs (PO1 c σ ts vs Q) (match loopC i t el ds [] (e1.set i .un) with
      | .ok acc e2 => .ok (.lst (acc.map .fz)) e2
      | _ => .stuck) := h1
    cases hl : loopC i t el ds [] (e1.set i .un) with
    | stuck =>
      rw [hl] at h1
      exact h1.elim
    | exc x e2 =>
      rw [hl] at h1
      exact h1.elim
    | ok acc e2 =>
      rw [hl] at h1
      exact fun G' H' R' => h1 G' H' _ R'.pop2
  have R0 : Rel c G1 (upd H1 L (.lst [])) (e1.set i .un) σ (.lst [] :: .fz hd :: ts) (.ref L :: v :: vs) := by
    have R2 := R1.laidL (ds := []) hL (by rw [Fzs])
    by_cases hi : i < e1.length
    · have hs : i < σ.length := by
        rw [← R1.elen]
        exact hi
      have R3 := R2.drop (i := i) σ[i] hi
      rw [List.set_getElem_self] at R3
      exact R3
    · rw [List.set_eq_of_length_le (by omega)]
      exact R2
  refine ⟨fun k m H' => m = ds.length - k ∧ k ≤ ds.length ∧ ∃ G' e' acc, Rel c G' H' e' σ (.lst (acc.map .fz) :: .fz hd :: ts) (.ref L :: v :: vs) ∧ OutC c σ hd v ts vs L Q (loopC i t el (ds.drop k) acc e'), ⟨_, rfl, Nat.zero_le _, G1, _, [], R0, by rw [List.drop_zero]; exact hO⟩, ?_⟩
  rintro k m H' ⟨rfl, hk, G', e', acc, R', h'⟩
  by_cases hlt : k < ds.length
  · refine .inr ⟨j.go k R' R'.pop.fz hlt, fun H2 => ∃ G2 e2 acc2, Rel c G2 H2 e2 σ (.lst (acc2.map .fz) :: .fz hd :: ts) (.ref L :: v :: vs) ∧ OutC c σ hd v ts vs L Q (loopC i t el (ds.drop (k + 1)) acc2 e2), fun H2 q => ⟨ds.length - (k + 1), by omega, rfl, hlt, q⟩, fun x H2 y => ?_⟩
    obtain ⟨G2, d, hd', R2, f⟩ := j.yld k R' R'.pop.fz hlt y
    have ed : ds.drop k = d :: ds.drop (k + 1) := by
      rw [List.drop_eq_getElem_cons hlt]
      congr 1
      rw [List.getElem?_eq_getElem hlt] at hd'
      exact Option.some.inj hd'
    rw [ed] at h'
    unfold loopC at h'
    split at h'
    · rename_i hi
      have hs : i < σ.length := by
        rw [← R2.elen]
        exact hi
      have ew : wipe σ [i] = σ.set i none := rfl
      show wipe ((wipe σ [i]).set i (some x)) [i] = wipe σ [i] ∧ _
      have e2 : (wipe σ [i]).set i (some x) = σ.set i (some x) := by rw [ew, List.set_set]
      rw [e2]
      refine ⟨by show (σ.set i (some x)).set i none = σ.set i none; rw [List.set_set], ?_⟩
      have R3 : Rel c G2 H2 (e'.set i (.o (.fz d))) (σ.set i (some x)) (.lst (acc.map .fz) :: .fz hd :: ts) (.ref L :: v :: vs) := (R2.push f).put hi
      have back : ∀ {G4 H4 : Hp} {e4 : PV.Env} {ts4 : List O} {vs4 : List V}, Rel c G4 H4 e4 (σ.set i (some x)) ts4 vs4 → Rel c G4 H4 (e4.set i .un) σ ts4 vs4 := fun {G4 H4 e4 ts4 vs4} R4 => by
        have hl : i < e4.length := by
          rw [R4.elen, List.length_set]
          exact hs
        have R5 := R4.drop (i := i) σ[i] hl
        rw [List.set_set, List.set_getElem_self] at R5
        exact R5
      refine ⟨G2, _, _, _, R3, ?_⟩
      cases ht : t (e'.set i (.o (.fz d))) with
      | stuck =>
        rw [ht] at h'
        exact h'.elim
      | exc x e4 =>
        rw [ht] at h'
        exact h'.elim
      | ok b e4 =>
        rw [ht] at h'
        cases b with
        | false => exact fun G4 H4 R4 => ⟨G4, _, acc, back R4, h'⟩
        | true =>
          intro G4 H4 R4
          refine ⟨G4, e4, _, _, R4, ?_⟩
          have h' : OutC c σ hd v ts vs L Q (match el e4 with
            | .ok o e2 => if acc.length < sizeLine then loopC i t el (ds.drop (k + 1)) (acc ++ [o.toD]) (e2.set i .un) else .stuck
            | _ => .stuck) := h'
          cases he : el e4 with
          | stuck =>
            rw [he] at h'
            exact h'.elim
          | exc x e5 =>
            rw [he] at h'
            exact h'.elim
          | ok o e5 =>
            rw [he] at h'
            intro G5 H5 y R5
            obtain ⟨G6, _, R6, fy⟩ := R5.cool1
            have h' : OutC c σ hd v ts vs L Q (if acc.length < sizeLine then loopC i t el (ds.drop (k + 1)) (acc ++ [o.toD]) (e5.set i .un) else .stuck) := h'
            split at h'
            · rename_i hz
              obtain ⟨us, hL', hlen, R7⟩ := R6.appT fy
              refine ⟨us, hL', by rw [hlen, List.length_map]; exact hz, G6, _, acc ++ [o.toD], ?_, h'⟩
              have := back R7
              rw [List.map_append]
              exact this
            · exact h'.elim
    · exact h'.elim
  · have e0 : k = ds.length := by omega
    subst e0
    rw [List.drop_length] at h'
    exact .inl ⟨j.stop R' R'.pop.fz, h' G' H' R'⟩
theorem qe_comp (i : Nat) {y : Str} {elt iter : Expr} {ifs : List Expr} {scope : Scope} {it : Sm Its} {t : Sm Bool} {el : Sm O} {py pos : Pos} (hc : X.calm = true) (hN : X.N.Nodup) (hi : PI X (.Name y py) iter (tIt c W it)) (ok : blkC X.N X.env.scope scope [(y, i)] = true) 
    (hg : ∀ (s : Shared) (H : Hp) (C : Addr) (cl : List (Str × Addr)) (fp : List Addr), PG (X.blk s H scope (compEnvC scope cl C X.env) fp) (.Name y py) (gName i))
    (ht : ∀ (s : Shared) (H : Hp) (C : Addr) (cl : List (Str × Addr)) (fp : List Addr), PTs (X.blk s H scope (compEnvC scope cl C X.env) fp) ifs (tT c Wf t))
    (he : ∀ (s : Shared) (H : Hp) (C : Addr) (cl : List (Str × Addr)) (fp : List Addr), PE (X.blk s H scope (compEnvC scope cl C X.env) fp) elt (tI c Wf el)) (hs : ∀ x, foldedSetIterable iter X.env x = pure x := by intro _; rfl) :
    PE X (.ListComp elt [⟨.Name y py, iter, ifs, 0⟩] scope pos) (tI c W (sComp i it t el)) :=
  PE.imp (pe_lc (own := [(y, i)]) (g := gName i) hc hN hi (blkOk_by ok) hg ht he hs) tLc_of
/-- name = [..], the name a plain local -/
theorem qs_setComp (i j : Nat) {x y : Str} {elt iter : Expr} {ifs : List Expr} {scope : Scope} {it : Sm Its} {t : Sm Bool} {el : Sm O} {px py pos spos : Pos} (hc : X.calm = true) (hN : X.N.Nodup) (hi : PI X (.Name y py) iter (tIt c W it)) (ok : blkC X.N X.env.scope scope [(y, i)] = true)
    (hg : ∀ (s : Shared) (H : Hp) (C : Addr) (cl : List (Str × Addr)) (fp : List Addr), PG (X.blk s H scope (compEnvC scope cl C X.env) fp) (.Name y py) (gName i))
    (ht : ∀ (s : Shared) (H : Hp) (C : Addr) (cl : List (Str × Addr)) (fp : List Addr), PTs (X.blk s H scope (compEnvC scope cl C X.env) fp) ifs (tT c Wf t))
    (he : ∀ (s : Shared) (H : Hp) (C : Addr) (cl : List (Str × Addr)) (fp : List Addr), PE (X.blk s H scope (compEnvC scope cl C X.env) fp) elt (tI c Wf el))
    (hx : X.N[j]? = some x := by rfl) (hxl : X.env.scope.names.lookup x = some .local := by rfl) (hk : X.env.scope.kind = .function := by rfl) (hl : (px.line == pos.line) = true := by rfl) (ha : (scope.names.any fun (n, k) => n == x && (k == .local || k == .cell)) = false := by rfl) (hs : ∀ x, foldedSetIterable iter X.env x = pure x := by intro _; rfl) :
    PS X (.Assign [.Name x px] (.ListComp elt [⟨.Name y py, iter, ifs, 0⟩] scope pos) spos) (tS c W (sSet j (sComp i it t el))) :=
  PS.imp (ps_setLc (i := j) (own := [(y, i)]) (g := gName i) hc hN hx hxl (sw_true hk hxl hl ha) hi (blkOk_by ok) hg ht he hs) fun D σ H ⟨G, e, ts, vs, R, h⟩ =>
    tLc_of σ H _ (tI_seqS (m := sComp i it t el) R h fun G1 H1 v o e1 R1 h1 => by
      split at h1
      · rename_i hl
        exact h1 G1 H1 _ (R1.put hl)
      · exact h1.elim)

/-! ### a def by its body -/
def slOf : Bool → PV.D → Sl
  | true, .lst ds => .bo ds
  | _, d => .o (.fz d)
def slAll : List Bool → List PV.D → PV.Env
  | _, [] => []
  | ms, d :: ds => slOf (ms.headD false) d :: slAll ms.tail ds
def runF (n : Nat) (ms : List Bool) (m : Sm Fl) : List PV.D → Rv := fun as => match m (slAll ms as ++ List.replicate (n - as.length) .un) with
  | .stuck => .stuck
  | .ok .nx _ => .ok .non
  | .ok (.rt d) _ => .ok d
  | .ok .bk _ => .stuck
  | .ok .ct _ => .stuck
  | .exc x _ => .exc x
theorem slAll_len : ∀ (ms : List Bool) (ds : List PV.D), (slAll ms ds).length = ds.length
  | ms, [] => rfl
  | ms, d :: ds => by
    unfold slAll
    rw [List.length_cons, List.length_cons, slAll_len ms.tail ds]
theorem repS_of {K : PySem.W.Frag} {b : Bool} {d : PV.D} {v : V} (h : RepA K G H b d v) : RepS ⟨K, G, H, none⟩ G H (slOf b d) (some v) [] := by
  cases b with
  | false =>
    have h : Fz K G d v := by cases d <;> exact h
    have : slOf false d = .o (.fz d) := by cases d <;> rfl
    rw [this]
    exact ⟨v, rfl, Ow.fz h⟩
  | true =>
    cases d with
    | lst ds =>
      obtain ⟨a, us, rfl, h1, h2⟩ := h
      exact ⟨rfl, a, us, rfl, h1, h2⟩
    | _ => exact ⟨v, rfl, Ow.fz h⟩
theorem repE_of {K : PySem.W.Frag} : ∀ {ms : List Bool} {ds : List PV.D} {us : List V} {n : Nat}, RepAs K G H ms ds us → RepE ⟨K, G, H, none⟩ G H (slAll ms ds ++ List.replicate n .un) (us.map some ++ List.replicate n none) []
  | ms, [], us, n, h => by
    unfold RepAs at h
    subst h
    unfold slAll
    simp only [List.nil_append, List.map_nil]
    induction n with
    | zero => rfl
    | succ n ih =>
      rw [List.replicate_succ, List.replicate_succ]
      exact ⟨[], [], rfl, rfl, ih⟩
  | ms, d :: ds, us, n, h => by
    unfold RepAs at h
    obtain ⟨x, xs, rfl, q, r⟩ := h
    unfold slAll
    exact ⟨[], [], rfl, repS_of q, repE_of r⟩
theorem rel_start {K : PySem.W.Frag} {N : List Str} {ms : List Bool} {ds : List PV.D} {us : List V} (l : Ext G H) (h : RepAs K G H ms ds us) : Rel ⟨K, G, H, none⟩ G H (slAll ms ds ++ List.replicate (N.length - ds.length) .un) (L2.start N us) [] [] := by
  refine ⟨Ext.refl H, l, Ext.refl G, fun a u e n => ?_, trivial, [], [], ?_, rfl, by simp, fun a ha => absurd ha (by simp)⟩
  · have n' : G a = none := n
    rw [e] at n'
    cases n'
  · unfold L2.start
    rw [h.len]
    exact repE_of h
/-- the end of a body -/
theorem tS_of_run {K : PySem.W.Frag} {N : List Str} {n : Nat} {ms : List Bool} {m : Sm Fl} {us : List V} {Q : VK} {E : XK} (h : spP K n ms (runF N.length ms m) us H Q E) : ∃ c : Cl, c.K = K ∧ c.hx = none ∧ tS c (fun cls d _ H => E cls d H) m { nx := fun _ H' => Q .non H', rt := Q } (L2.start N us) H := by
  obtain ⟨G, as, hn, l, ra, h⟩ := h
  refine ⟨⟨K, G, H, none⟩, rfl, rfl, G, _, [], [], rel_start l ra, ?_⟩
  unfold runF at h
  cases hm : m (slAll ms as ++ List.replicate (N.length - as.length) .un) with
  | stuck =>
    simp only [hm] at h
  | exc x e =>
    simp only [hm] at h
    exact fun G' H' σ' d R f => h G' H' d R.h0 R.g0 R.g R.fr f
  | ok fl e =>
    simp only [hm] at h
    cases fl with
    | nx => exact fun G' H' σ' R => h G' H' .non R.h0 R.g0 R.g R.fr fzN
    | rt d => exact fun G' H' σ' v R f => h G' H' v R.h0 R.g0 R.g R.fr f
    | bk => exact h.elim
    | ct => exact h.elim
theorem fn_rule {P : Program} {w : World} {K : PySem.W.Frag} {mg : Str → Option Value} {base : Heap} {x qual : Str} {params : Arguments} {body : List Stmt} {scope : Scope} {dvs : List V} {kws : List (Str × V)} {f : Addr} {fd : FuncData} {N ps : List Str} {k n : Nat} {ms : List Bool} {m : Sm Fl}
    (F : FunD K x qual params body scope dvs kws f fd) (S : FnScope N ps scope) (hn : ps.length = n)
    (hb : ∀ (cdv : Value) (A : Around) (outer : List PySem.Env) (s : Shared) (H : Hp) (E : XK) (c : Cl), c.K = K → c.hx = none → Room k (A.deeper (envOfC qual scope s.heap.objs.size f cdv)) →
      PSs (cxOf (L2.CX P w) P w K mg base N qual scope f cdv A outer s H E) body (tS c (fun cls d _ H => E cls d H) m)) :
    FnOk P w K mg base (L2.CX P w) (k + 1) f fd ps (spP K n ms (runF N.length ms m)) := by
  refine F.ok S (fun vs H Q E h => by rw [h.len, hn]) fun cdv A outer s H vs Q E hr h => ?_
  obtain ⟨c, hc, hx, hq⟩ := tS_of_run h
  exact ⟨_, hb cdv A outer s H E c hc hx hr, hq⟩
end
end PV

/-! A caught error: its fields, isinstance of it, try .. except X as n. -/
namespace PySem.W
open PySem PySem.Spec PySem.Calls PyProof.Rows
section
variable {prog : Program} {w : World} {A : Around} {E : Value → Shared → Prop} {s : Shared} {K : Frag} {x D : Addr} {ox : Obj} {od : Option Obj}
theorem pv_findObj_data {C : Addr} {name : Str} {a g : Value} (hc : (clsIn K C).isSome = true) (ha : findIn K (.ref C) name = some (some a)) (hg : specialIn K a "__get__" = some (some g)) (ht : takesIn K a = some true) : findObj K C od name = some (.bind g a) := by
  obtain ⟨cd, hc⟩ := Option.isSome_iff_exists.mp hc
  unfold findObj
  rw [hc, Option.bind_some, ha, Option.bind_some]
  simp [hg, ht]
theorem pv_kin_class {Q : Option Value → Shared → Prop} (hga : findIn K (.ref D) "__getattribute__" = some (some (.builtin "BaseException.__getattribute__"))) (hgt : findIn K (.ref D) "__getattr__" = some none) (hsub : subIn K (.ref D) (.type "BaseException") = some true)
    (hdct : hasDictIn K D = true) (ha : findIn K (.ref D) "__class__" = some (some (.builtin "object.__class__")))
    (hn : specialIn K (.builtin "object.__class__") "__get__" = some (some (.builtin "getset_descriptor.__get__"))) (htk : takesIn K (.builtin "object.__class__") = some true) (hm : mroIn K D (.type "object") = some true)
    (X : K.In s.heap) (I : InstAt s.heap x ox D od) (h : Q (some (.ref D)) { s with toks := s.toks + 1 }) : wpAny (model prog w) A (getAttr? (.ref x) "__class__") Q E s := by
  have hf : findObj K D od "__class__" = some (.bind (.builtin "getset_descriptor.__get__") (.builtin "object.__class__")) := pv_findObj_data (by obtain ⟨cd, hc, _⟩ := any_some hdct; rw [hc]; rfl) ha hn htk
  obtain ⟨hp, g, d, t, os⟩ := s
  have L0 := I.type (M := model prog w)
  have L1 := looks_findIn (M := model prog w) X hga
  have L2 := looks_findIn (M := model prog w) X hgt
  have L3 := looks_find (M := model prog w) X I hf
  have sub : Looks (model prog w) hp (isInstance (.ref x) (.type "BaseException")) true := L0.andThen (looks_subIn X hsub)
  have hx0 : (false && onTheHeap (Value.builtin "BaseException.__getattribute__")) = false := rfl
  have hx2 : (Value.builtin "BaseException.__getattribute__" == Value.builtin "object.__getattribute__") = false := by decide +kernel
  have hx1 : (onTheHeap (Value.ref D) && Value.builtin "BaseException.__getattribute__" == Value.builtin "object.__getattribute__") = false := by rw [hx2]; rfl
  unfold getAttr? getAttrBy? getAttrBy
  refine wpAny_bind (wpAny_mkText (wpAny_bind (wpAny_attempt (wpAny_holding (wpAny_bind (L0.at (wpAny_bind (L1.at ?_))))))))
  show wpAny _ _ (if (onTheHeap (Value.ref D) && Value.builtin "BaseException.__getattribute__" == Value.builtin "object.__getattribute__") = true then _ else _) _ _ _
  rw [hx1, if_neg Bool.false_ne_true]
  unfold getAttrByItsOwn hookBefore
  refine wpAny_bind ?_
  rw [if_pos (show onTheHeap (Value.ref D) = true from rfl)]
  refine L2.at ?_
  refine wpAny_bind (wpAny_attempt (wpAny_holding ?_))
  unfold callGetattribute
  rw [hx0, if_neg Bool.false_ne_true]
  unfold boundAndCalled
  rw [PySem.F.excAttr_ValueError.ga.bind (.ref x)]
  refine wpAny_bind (wpAny_pure ?_)
  show wpAny _ _ (call (.builtin "BaseException.__getattribute__") [.ref x, .str "__class__" t]) _ _ _
  refine wpAny_call (codeAny_call_builtin PySem.F.excAttr_ValueError.ga.plain PySem.F.entry_bexc_ga ?_)
  refine @check_slot (model prog w) _ _ ⟨hp, g, d, t + 1, os⟩ "BaseException.__getattribute__" "BaseException" "__getattribute__" (.ref x) [.str "__class__" t] [] _ (by decide +kernel) (by decide +kernel) sub (PySem.F.args_bexc_ga (.ref x) (.str "__class__" t)) ?_
  unfold Builtin.«object.__getattribute__»
  refine wpAny_bind (wpAny_of_eq (a := ((Value.ref x : Value), [Value.str "__class__" t])) (by first | rfl | (simp only [slotArgs]; rfl)) ?_)
  refine wpAny_bind (wpAny_pure (wpAny_bind (L0.at (wpAny_bind (L3.at ?_)))))
  show wpAny _ _ (holding [Value.builtin "object.__class__"] (call (.builtin "getset_descriptor.__get__") [.builtin "object.__class__", .ref x, .ref D]) >>= ret) _ _ _
  refine wpAny_bind (wpAny_holding (wpAny_call (class_get (s := ⟨hp, g, d, t + 1, os⟩) (ox := ox) (od := od) X I hm ?_)))
  refine wpAny_pure ?_
  show wpAny _ _ (handedOut (.ref D)) _ _ _
  rw [handedOut_of (v := .ref D) rfl]
  first
    | exact wpAny_pure (wpAny_pure h)
    | exact wpAny_pure h
    | exact wpAny_pure (wpAny_bind (wpAny_pure (wpAny_pure h)))
theorem pv_kitx_exc (hga : findIn K (.ref D) "__getattribute__" = some (some (.builtin "BaseException.__getattribute__"))) (hgt : findIn K (.ref D) "__getattr__" = some none) (hsub : subIn K (.ref D) (.type "BaseException") = some true) (hdct : hasDictIn K D = true) (ha : findIn K (.ref D) "__class__" = some (some (.builtin "object.__class__")))
    (hn : specialIn K (.builtin "object.__class__") "__get__" = some (some (.builtin "getset_descriptor.__get__"))) (htk : takesIn K (.builtin "object.__class__") = some true) (hm : mroIn K D (.type "object") = some true) :
    KitX K (.ref x) (.ref D) (fun h => ∃ od, InstAt h x ox D od) where
  ty := fun _ _ _ ⟨_, I⟩ => I.type
  it := fun _ _ X _ => by
    obtain ⟨cdD, hcD, _⟩ := any_some hdct
    unfold clsIn at hcD
    split at hcD
    · rename_i c' d' cd' sl' ho
      intro A' Q' E' s' k q
      unfold isType loadHead
      exact wpAny_bind (wpAny_loadPart (k _ _ (X _ _ ho)) (wpAny_pure q))
    · cases hcD
  ne := fun h tp dd its n sl X htp => by
    obtain ⟨cdD, hcD, _⟩ := any_some hdct
    refine Bool.eq_false_iff.mpr fun q => ?_
    have e : D = tp := Value.ref.inj (beq_iff_eq.mp q)
    subst e
    unfold clsIn at hcD
    split at hcD
    · rename_i c' d' cd' sl' ho
      have z := (X _ _ ho).symm.trans htp
      cases z
    · cases hcD
  ca := fun X ⟨_, I⟩ k => pv_kin_class hga hgt hsub hdct ha hn htk hm X I k
end
end PySem.W
namespace PV
open PySem PySem.Spec PyProof.Rows L2
/-- the exception's own dict, if it has one, stands -/
theorem call_isE2 {X : Cx} {a D : Addr} {oe : Obj} {d : Option Addr} {pn : List (Addr × Obj)} (C : ExcC X.K D) (hz : Zc (.ref D) d oe) (hf : ∃ vs, oe.data = .fields vs) :
    CallR (X.suite a ((a, oe) :: pn)) (.builtin "isinstance") (fun xs H Q => (d = none ∨ ∃ dd fs, d = some dd ∧ H dd = some (.xd fs)) ∧ rIsE X.K D a xs H Q) := by
  intro pins s σ H xs us Q I r h
  obtain ⟨hdd, c, cv, b, rfl, hcv, e, q⟩ := h
  cases r with
  | cons rx rr =>
    cases rr with
    | cons rt rr =>
      cases rr
      cases rx
      have ec := hcv _ rt
      subst ec
      obtain ⟨hget, _⟩ := I.pin (a, oe) (List.mem_append.mpr (.inl List.mem_cons_self))
      obtain ⟨vs, hv⟩ := hf
      have J : ∃ od, PySem.W.InstAt s.heap a oe D od := by
        obtain ⟨oc, od, oda, osl⟩ := oe
        obtain ⟨h1, h2⟩ := hz
        dsimp only at h1 h2 hv
        subst h1 h2 hv
        rcases hdd with rfl | ⟨dd, fs, rfl, hH⟩
        · exact ⟨none, hget, rfl, rfl, trivial⟩
        · have hx : ObjOk X.prog X.w H s.heap dd (.xd fs) := I.hok dd _ hH
          obtain ⟨mA, hns, hr⟩ := hx
          obtain ⟨o, es, ep, ho, _⟩ := hns
          exact ⟨some o, hget, rfl, rfl, ho⟩
      exact PySem.W.kia_one (PySem.W.pv_kitx_exc C.hg C.hk C.hs C.hd C.ha C.hn C.ht C.hm) I.kIn J e (fun z => nomatch z) fun tk => ⟨.bl b, H, I.kept (t' := tk) fun _ _ z => z, rfl, q⟩
section
variable {X : Cx} {c : Cl} {W : WX} {G H : Hp} {e : PV.Env} {σ : L2.St} {ts : List O} {vs : List V} {α β : Type} {D : Ends}
theorem lookup_zipR {K : PySem.W.Frag} {f : Str} {d : PV.D} : ∀ {ns : List Str} {ds : List PV.D} {us : List V}, Fzs K G ds us → (ns.zip ds).reverse.lookup f = some d → ∃ v, (ns.zip us).reverse.lookup f = some v ∧ Fz K G d v := by
  intro ns
  induction ns with
  | nil =>
    intro ds us h e
    simp at e
  | cons n ns ih =>
    intro ds us h e
    cases ds with
    | nil => simp at e
    | cons d' ds =>
      rw [Fzs] at h
      obtain ⟨x, xs, rfl, q, r⟩ := h
      rw [List.zip_cons_cons, List.reverse_cons, List.lookup_append] at e ⊢
      cases h1 : (ns.zip ds).reverse.lookup f with
      | some d2 =>
        rw [h1] at e
        have e2 : d2 = d := by simpa using e
        subst e2
        obtain ⟨v, hv, fv⟩ := ih r h1
        exact ⟨v, by rw [hv]; rfl, fv⟩
      | none =>
        rw [h1] at e
        have n1 : ∀ {ns : List Str} {ds : List PV.D} {us : List V}, Fzs K G ds us → (ns.zip ds).reverse.lookup f = none → (ns.zip us).reverse.lookup f = none := by
          intro ns
          induction ns with
          | nil => intros; rfl
          | cons n ns ih =>
            intro ds us h e
            cases ds with
            | nil =>
              rw [Fzs] at h
              rw [h]
              rfl
            | cons d' ds =>
              rw [Fzs] at h
              obtain ⟨x, xs, rfl, q, r⟩ := h
              rw [List.zip_cons_cons, List.reverse_cons, List.lookup_append] at e ⊢
              obtain ⟨e1, e2⟩ := Option.or_eq_none_iff.mp e
              rw [ih r e1]
              by_cases hb : f = n
              · subst hb
                simp [List.lookup] at e2
              · have : (f == n) = false := by simpa using hb
                simp [List.lookup, this]
        rw [n1 r h1]
        by_cases hb : f = n
        · subst hb
          have e2 : d' = d := by simpa [List.lookup] using e
          subst e2
          exact ⟨x, by simp [List.lookup], q⟩
        · have : (f == n) = false := by simpa using hb
          simp [List.lookup, this] at e
def sFldX (i : Nat) (f : Str) (cs : List Str) : Sm O := fun e => match e[i]? with
  | some (.ex x) => if cs.contains x.c then (match (x.ns.zip x.ds).reverse.lookup f with
    | some d => .ok (.fz d) e
    | none => .stuck) else .stuck
  | _ => .stuck
theorem PE.false {ex : Expr} {t : TE} (h : ∀ σ H Q, ¬ t σ H Q) : PE X ex t := ⟨fun _ _ σ H Q _ q => (h σ H Q q).elim⟩
theorem Rel.exAt (R : Rel c G H e σ ts vs) {i : Nat} {x : Exc} (h : e[i]? = some (.ex x)) : ∃ a cls d, σ[i]? = some (some (.ref a)) ∧ c.hx = some (a, cls, d, x) ∧ cls = .ref (He.ga c.K x.c) ∧ ExF c.K G H x d := by
  obtain ⟨v, fp, hv, _, a, cls, d, rfl, hc⟩ := R.peek h
  have := R.hx
  unfold HxOk at this
  rw [hc] at this
  exact ⟨a, cls, d, hv, hc, this.1, this.2⟩
theorem qx_fld (i : Nat) (cs : List Str) {n f : Str} {a : Addr} {oe : Obj} {cls : Value} {d : Option Addr} {x : Exc} {pn : List (Addr × Obj)} {p pos : Pos} (hK : X.K = c.K) (hx : c.hx = some (a, cls, d, x)) (hT : ∀ cn ∈ cs, XfC X.K (He.ga X.K cn) ∧ PySem.W.findIn X.K (.ref (He.ga X.K cn)) f = some none)
    (hz : Zc cls d oe) (hf : ∃ vs, oe.data = .fields vs) (he : PE (X.suite a ((a, oe) :: pn)) (.Name n p) (tVar i)) (hb : attributeBase (.Name n p) f X.env (eval (.Name n p) X.env) = eval (.Name n p) X.env := by rfl) :
    PE (X.suite a ((a, oe) :: pn)) (.Attribute (.Name n p) f pos) (tI c W (sFldX i f cs)) := by
  by_cases hc : x.c ∈ cs
  · refine PE.imp (pe_xf (hT _ hc).1 (hT _ hc).2 hz hf he hb) fun σ H Q ⟨G, e, ts, vs, R, h⟩ => ?_
    unfold sFldX at h
    split at h
    · rename_i x' hx'
      split at h
      · split at h
        · rename_i dv hdv
          obtain ⟨a', cls', d', hv, hc', e1, e2⟩ := R.exAt hx'
          rw [hx] at hc'
          cases hc'
          rcases e2 with ⟨h1, h2, _⟩ | ⟨dd, us, ed, hH, hl, f'⟩
          · rw [h1] at hdv
            simp at hdv
          · obtain ⟨v, hlv, fv⟩ := lookup_zipR f' hdv
            exact ⟨_, hv, rfl, by rw [e1, hK], dd, _, v, ed, hH, hlv, h G H v (R.push fv)⟩
        · exact h.elim
      · exact h.elim
    · exact h.elim
  · refine PE.false fun σ H Q ⟨G, e, ts, vs, R, h⟩ => ?_
    unfold sFldX at h
    split at h
    · rename_i x' hx'
      obtain ⟨a', cls', d', hv, hc', _⟩ := R.exAt hx'
      rw [hx] at hc'
      cases hc'
      split at h
      · rename_i hcc
        exact hc (by simpa using hcc)
      · exact h.elim
    · exact h.elim
def sIsX (i : Nat) (tbl : List (Str × Bool)) : Sm O := fun e => match e[i]? with
  | some (.ex x) => (match tbl.lookup x.c with
    | some b => .ok (.fz (.bl b)) e
    | none => .stuck)
  | _ => .stuck
theorem mem_look {α : Type} {k : Str} {v : α} : ∀ {l : List (Str × α)}, l.lookup k = some v → (k, v) ∈ l
  | [], h => by simp at h
  | (k', v') :: l, h => by
    by_cases e : k = k'
    · subst e
      have : v' = v := by simpa [List.lookup] using h
      subst this
      exact List.mem_cons_self
    · have q : (k == k') = false := by simpa using e
      simp only [List.lookup, q] at h
      exact List.mem_cons_of_mem _ (mem_look h)
/-- isinstance(e, C): the second argument a class's value cv -/
theorem qx_isi (i : Nat) (tbl : List (Str × Bool)) {f n : Str} {a : Addr} {oe : Obj} {cls cv : Value} {cvV : V} {d : Option Addr} {x : Exc} {pn : List (Addr × Obj)} {ce : Expr} {p p2 pos : Pos} (hK : X.K = c.K) (hx : c.hx = some (a, cls, d, x)) (hT : ∀ q ∈ tbl, ExcC X.K (He.ga X.K q.1) ∧ PySem.W.kitOne X.K (.ref (He.ga X.K q.1)) cv = some q.2)
    (hz : Zc cls d oe) (hf : ∃ vs, oe.data = .fields vs) (hcv : ∀ u, RelV cvV u → u = cv) (he : PE (X.suite a ((a, oe) :: pn)) (.Name n p) (tVar i)) (hce : PE (X.suite a ((a, oe) :: pn)) ce (tC cvV)) (hg : Gl X f) (hm : X.mg f = none) (hv : bootBuiltins f = some (.builtin "isinstance"))
    (hn : f ≠ "__name__" := by decide) (hdb : (f == ("__debug__" : Str)) = false := by decide) (he1 : starEach [.Name n p, ce] X.env = (false, eval (.Name n p) X.env) :: starEach [ce] X.env := by rfl) (he2 : starEach [ce] X.env = (false, eval ce X.env) :: starEach [] X.env := by rfl) (hpl : (backTo pos (starEach [ce] X.env)).any (·.1) = false := by rfl) :
    PE (X.suite a ((a, oe) :: pn)) (.Call (.Name f p2) [.Name n p, ce] [] pos) (tI c W (sIsX i tbl)) := by
  cases hl : tbl.lookup x.c with
  | none =>
    refine PE.false fun σ H Q ⟨G, e, ts, vs, R, h⟩ => ?_
    unfold sIsX at h
    split at h
    · rename_i x' hx'
      obtain ⟨a', cls', d', hv, hc', _⟩ := R.exAt hx'
      rw [hx] at hc'
      cases hc'
      rw [hl] at h
      exact h
    · exact h.elim
  | some b =>
    have hm' := mem_look hl
    have fc := hT _ hm'
    by_cases hcls : cls = .ref (He.ga c.K x.c)
    · subst hcls
      have ez : Zc (.ref (He.ga X.K x.c)) d oe := by rw [hK]; exact hz
      refine PE.imp (pe_callB (call_isE2 fc.1 ez hf) hg hm hv (pa_cons he (pa_cons hce pa_nil he2) he1) hn hdb he1 hpl) fun σ H Q ⟨G, e, ts, vs, R, h⟩ => ?_
      unfold sIsX at h
      split at h
      · rename_i x' hx'
        obtain ⟨a', cls', d', hv, hc', e1, e2⟩ := R.exAt hx'
        rw [hx] at hc'
        cases hc'
        rw [hl] at h
        refine ⟨_, hv, ?_, cvV, cv, b, rfl, hcv, fc.2, h G H _ (R.push fzB)⟩
        rcases e2 with ⟨_, _, h2⟩ | ⟨dd, us, ed, hH, _⟩
        · exact .inl h2
        · exact .inr ⟨dd, _, ed, hH⟩
      · exact h.elim
    · refine PE.false fun σ H Q ⟨G, e, ts, vs, R, h⟩ => ?_
      unfold sIsX at h
      split at h
      · rename_i x' hx'
        obtain ⟨a', cls', d', hv, hc', e1, e2⟩ := R.exAt hx'
        rw [hx] at hc'
        cases hc'
        exact hcls e1
      · exact h.elim

/-! ### try: body, except X as n: suite -/
def noEx : PV.Env → PV.Env := fun e => e.map fun s => match s with
  | .ex _ => .un
  | s => s
def sTry (subs : List (Str × Bool)) (i : Nat) (body hdl : Sm Fl) : Sm Fl := fun e => match body e with
  | .exc x e1 => (match subs.lookup x.c with
    | some true => if i < e1.length then (match hdl ((noEx e1).set i (.ex x)) with
      | .ok f e2 => if i < e2.length then .ok f ((noEx e2).set i .un) else .stuck
      | _ => .stuck) else .stuck
    | some false => .exc x e1
    | none => .stuck)
  | .ok f e1 => .ok f e1
  | .stuck => .stuck
theorem PSs.ex {ι : Type} {st : List Stmt} {t : ι → TS} (h : ∀ i, PSs X st (t i)) : PSs X st (fun D σ H => ∃ i, t i D σ H) := ⟨fun pins s σ H D I ⟨i, q⟩ => (h i).run pins s σ H D I q⟩
theorem RepE.noEx {c' : Cl} (hK : c'.K = c.K) (h0 : c'.H0 = c.H0) (g0 : c'.G0 = c.G0) : ∀ {e : PV.Env} {σ : L2.St} {fp : List Addr}, RepE c G H e σ fp → RepE c' G H (PV.noEx e) σ fp
  | [], [], fp, h => h
  | s :: e, v :: σ, fp, h => by
    obtain ⟨f1, f2, rfl, q, r⟩ := h
    refine ⟨f1, f2, rfl, ?_, RepE.noEx hK h0 g0 r⟩
    cases s with
    | un => exact q
    | o o =>
      obtain ⟨x, e, q⟩ := q
      exact ⟨x, e, by rw [hK]; exact q⟩
    | bo ds =>
      obtain ⟨h1, a, us, e, q, r⟩ := q
      exact ⟨h1, a, us, e, by rw [hK, h0]; exact q, by rw [hK, g0]; exact r⟩
    | ex x => exact q.1
  | [], _ :: _, _, h => h.elim
  | _ :: _, [], _, h => h.elim
theorem RepT.cl {c' : Cl} (hK : c'.K = c.K) : ∀ {ts : List O} {vs : List V} {fp : List Addr}, RepT c G H ts vs fp → RepT c' G H ts vs fp
  | [], [], fp, h => h
  | s :: e, v :: σ, fp, h => by
    obtain ⟨f1, f2, rfl, q, r⟩ := h
    exact ⟨f1, f2, rfl, by rw [hK]; exact q, RepT.cl hK r⟩
  | [], _ :: _, _, h => h.elim
  | _ :: _, [], _, h => h.elim
theorem Rel.noEx {c' : Cl} (R : Rel c G H e σ ts vs) (hK : c'.K = c.K) (h0 : c'.H0 = c.H0) (g0 : c'.G0 = c.G0) (hx : HxOk c' G H) : Rel c' G H (PV.noEx e) σ ts vs := by
  obtain ⟨fe, ft, h1, h2, nd, out⟩ := R.rep
  exact ⟨by rw [h0]; exact R.h0, R.g, by rw [g0]; exact R.g0, fun a u e n => by rw [h0]; exact R.fr a u e (by rw [← g0]; exact n), hx, fe, ft, h1.noEx hK h0 g0, h2.cl hK, nd, fun a ha => by rw [h0]; exact out a ha⟩
abbrev Cl.with (c : Cl) (a : Addr) (cls : Value) (d : Option Addr) (x : Exc) : Cl := { c with hx := some (a, cls, d, x) }
abbrev Cl.no (c : Cl) : Cl := { c with hx := none }
theorem noEx_len (e : PV.Env) : (PV.noEx e).length = e.length := List.length_map ..
theorem Rel.putEx {a : Addr} {cls : Value} {d : Option Addr} {x : Exc} (R : Rel (c.with a cls d x) G H e σ ts vs) {i : Nat} (h : i < e.length) : Rel (c.with a cls d x) G H (e.set i (.ex x)) (σ.set i (some (.ref a))) ts vs := by
  obtain ⟨fe, ft, h1, h2, nd, out⟩ := R.rep
  obtain ⟨v0, f0, f1, f2, hv, rfl, _, k⟩ := h1.at (List.getElem?_eq_getElem h)
  have k1 := k (.ex x) (some (.ref a)) [] ⟨rfl, a, cls, d, rfl, rfl⟩
  have s2 : (f0 ++ [] ++ f2 ++ ft).Sublist (f0 ++ f1 ++ f2 ++ ft) := by
    refine List.Sublist.append_right ?_ _
    simp only [List.append_assoc, List.nil_append]
    exact List.Sublist.append_left (List.sublist_append_right f1 f2) f0
  exact ⟨R.h0, R.g, R.g0, R.fr, R.hx, f0 ++ [] ++ f2, ft, k1, h2, nd.sublist s2, fun a ha => out a (s2.subset ha)⟩
theorem qs_try (subs : List (Str × Bool)) (i : Nat) {x n : Str} {b₀ : Stmt} {body suite : List Stmt} {mb mh : Sm Fl} {np pos pos' : Pos} (hK : X.K = c.K) (hcx : c.hx = none) (hs : X.stack = X.env :: X.outer) (hf : X.env.frame = some X.env.locals) (hN : X.N.Nodup) (hi : X.N[i]? = some n) (hln : X.env.kindOf n = some .local) (hc : Names X x (.ref (He.ga X.K x))) (tk : Takes X W)
    (hsub : ∀ p ∈ subs, PySem.W.exmOne X.K (.ref (He.ga X.K p.1)) (.ref (He.ga X.K x)) = some p.2)
    (hb : ∀ (W' : WX) (pn : List (Addr × Obj)) (xe : Value → Shared → Prop), Takes (X.tr pn xe) W' → PassesOwn (model X.prog X.w) X.A X.env xe → PSs (X.tr pn xe) body (tS c W' mb))
    (hsu : ∀ (a : Addr) (oe : Obj) (cls : Value) (d : Option Addr) (pn : List (Addr × Obj)) (y : Exc), Zc cls d oe → (∃ vs, oe.data = .fields vs) → PSs (X.suite a ((a, oe) :: pn)) (b₀ :: suite) (tS (c.with a cls d y) Wf mh)) :
    PS X (.Try body [.ExceptHandler (some (.Name x np)) (some n) (b₀ :: suite) pos'] [] [] pos) (tS c W (sTry subs i mb mh)) := by
  refine PS.imp (ps_try_as (tb := fun W' => tS c W' mb) (ts := fun a cls d D σ H => ∃ y, tS (c.with a cls d y) Wf mh D σ H) hs hf hN hi hln hc tk hb fun a oe cls d pn hz hv => PSs.ex fun y => hsu a oe cls d pn y hz hv) fun D σ H ⟨G, e, ts, vs, R, h⟩ => ?_
  refine ⟨G, e, ts, vs, R, ?_⟩
  unfold sTry at h
  cases hm : mb e with
  | stuck =>
    rw [hm] at h
    exact h
  | ok f e1 =>
    rw [hm] at h
    cases f <;> exact h
  | exc y e1 =>
    rw [hm] at h
    intro G' H' σ' d R' f
    have h : OutS c W ts vs D (match subs.lookup y.c with
      | some true => if i < e1.length then (match mh ((PV.noEx e1).set i (.ex y)) with
        | .ok f e2 => if i < e2.length then .ok f ((PV.noEx e2).set i .un) else .stuck
        | _ => .stuck) else .stuck
      | some false => .exc y e1
      | none => .stuck) := h
    cases hl : subs.lookup y.c with
    | none =>
      rw [hl] at h
      exact h.elim
    | some b =>
      rw [hl] at h
      have hfact := hsub _ (mem_look hl)
      rw [hK] at hfact ⊢
      refine ⟨b, hfact, fun eb a ha => ?_, fun eb => ?_⟩
      · subst eb
        have h : OutS c W ts vs D (if i < e1.length then (match mh ((PV.noEx e1).set i (.ex y)) with
          | .ok f e2 => if i < e2.length then .ok f ((PV.noEx e2).set i .un) else .stuck
          | _ => .stuck) else .stuck) := h
        split at h
        · rename_i hlt
          have R1 : Rel (c.with a (.ref (He.ga c.K y.c)) d y) G' H' (PV.noEx e1) σ' ts vs := R'.noEx rfl rfl rfl ⟨rfl, f⟩
          have R2 := R1.putEx (i := i) (by rw [noEx_len]; exact hlt)
          refine ⟨y, G', _, ts, vs, R2, ?_⟩
          cases hh : mh ((PV.noEx e1).set i (.ex y)) with
          | stuck =>
            rw [hh] at h
            exact h.elim
          | exc z e3 =>
            rw [hh] at h
            exact h.elim
          | ok fl e3 =>
            rw [hh] at h
            have back : ∀ {G4 H4 : Hp} {σ4 : L2.St} {ts4 : List O} {vs4 : List V}, Rel (c.with a (.ref (He.ga c.K y.c)) d y) G4 H4 e3 σ4 ts4 vs4 → Rel c G4 H4 (PV.noEx e3) σ4 ts4 vs4 := fun R4 => R4.noEx rfl rfl rfl (by unfold HxOk; rw [hcx]; trivial)
            have h : OutS c W ts vs D (if i < e3.length then .ok fl ((PV.noEx e3).set i .un) else .stuck) := h
            split at h
            · rename_i hi3
              have gone : ∀ {G4 H4 : Hp} {σ4 : L2.St} (w : Option V), Rel (c.with a (.ref (He.ga c.K y.c)) d y) G4 H4 e3 σ4 ts vs → Rel c G4 H4 ((PV.noEx e3).set i .un) (σ4.set i w) ts vs := fun w R4 => (back R4).drop w (by rw [noEx_len]; exact hi3)
              have gone' : ∀ {G4 H4 : Hp} {σ4 : L2.St} {ts4 : List O} {vs4 : List V}, Rel (c.with a (.ref (He.ga c.K y.c)) d y) G4 H4 e3 σ4 ts4 vs4 → Rel c G4 H4 ((PV.noEx e3).set i .un) σ4 ts4 vs4 := fun {G4 H4 σ4 ts4 vs4} R4 => by
                have z := (back R4).drop (i := i) (σ4[i]?.getD none) (by rw [noEx_len]; exact hi3)
                have l : i < σ4.length := by
                  obtain ⟨fe, ft, h1, _⟩ := R4.rep
                  rw [← h1.len]
                  exact hi3
                rw [List.getElem?_eq_getElem l, Option.getD_some, List.set_getElem_self] at z
                exact z
              cases fl with
              | nx => exact fun G4 H4 σ4 R4 => h G4 H4 _ (gone none R4)
              | rt dv => exact fun G4 H4 σ4 v4 R4 fv => h G4 H4 σ4 v4 (gone' R4) fv
              | bk => exact fun G4 H4 σ4 R4 => h G4 H4 _ (gone none R4)
              | ct => exact fun G4 H4 σ4 R4 => h G4 H4 _ (gone none R4)
            · exact h.elim
        · exact h.elim
      · subst eb
        exact h G' H' σ' d R' f
end
end PV

/-! The head's facts, one bundle. -/
namespace PV
open PySem PySem.Spec PyProof.Rows L2 NdefX
abbrev ba {a b : Bool} (h : (a && b) = true) : a = true ∧ b = true := Bool.and_eq_true_iff.mp h

/-! ### exceptions over ValueError -/
def oexB (K : PySem.W.Frag) (C : Addr) : Bool := (match K.lookup C with
  | some ⟨.type t, _, .cls cd, sl⟩ => (match cd.mro, sl.toList with
    | .ref C' :: bm, [_, _, _, _, some (.builtin n), _] => decide (t = "type") && (decide (C' = C) && (decide (n = "ValueError.__new__") && (!cd.hasDel && (cd.hasDict && PySem.HandSPX.refsVE bm))))
    | _, _ => false)
  | _ => false) && (He.eqO (PySem.W.findIn K (.ref C) "__setattr__") (some (some (.builtin "object.__setattr__"))) && (decide (PySem.W.subIn K (.ref C) (.type "BaseException") = some true) && (decide (PySem.W.typeIn K (.ref C) = some (.type "type")) && PySem.W.keepIn K (.ref C))))
theorem oexB_ok {K : PySem.W.Frag} {C : Addr} (h : oexB K C = true) : OexC K C := by
  obtain ⟨h1, h⟩ := ba h
  obtain ⟨h2, h⟩ := ba h
  obtain ⟨h3, h⟩ := ba h
  obtain ⟨h4, h5⟩ := ba h
  refine ⟨?_, He.eqO_ok h2, of_decide_eq_true h3, of_decide_eq_true h4, h5⟩
  split at h1
  · rename_i t dd cd sl ho
    split at h1
    · rename_i C' bm k0 k1 k2 k3 n k5 hm hs
      obtain ⟨e1, h1⟩ := ba h1
      obtain ⟨e2, h1⟩ := ba h1
      obtain ⟨e3, h1⟩ := ba h1
      obtain ⟨e4, h1⟩ := ba h1
      obtain ⟨e5, e6⟩ := ba h1
      have e1 := of_decide_eq_true e1
      have e2 := of_decide_eq_true e2
      have e3 := of_decide_eq_true e3
      subst e1 e2 e3
      obtain ⟨nm, bs, mro, ns, qn, hd, sn, sub, ab, col, del⟩ := cd
      dsimp only at hm e4 e5 e6
      have e4' : del = false := by simpa using e4
      subst hm e4' e5
      have hsl : sl = #[k0, k1, k2, k3, some (.builtin "ValueError.__new__"), k5] := by
        obtain ⟨l⟩ := sl
        simp only at hs
        rw [hs]
      subst hsl
      exact ⟨nm, qn, ns, bs, bm, sn, sub, ab, col, dd, k0, k1, k2, k3, k5, ho, e6⟩
    · cases h1
  · cases h1
/-- an own exception with an __init__ of its own -/
def excTB (K : PySem.W.Frag) (x : Str) : Bool := oexB K (He.ga K x) && (decide (PySem.W.mroIn K (He.ga K x) (.ref (He.ga K x)) = some true) && (He.eqO (PySem.W.ks_superIn K (He.ga K x) (He.ga K x) "__init__") (some (some (.builtin "ValueError.__init__"))) &&
  (decide (PySem.W.subIn K (.ref (He.ga K x)) (.type "ValueError") = some true) && (He.eqO (PySem.W.findIn K (.ref (He.ga K x)) "__init__") (some (some (.ref (He.ma K (He.ga K x) "__init__")))) && (decide (PySem.W.typeIn K (.ref (He.ma K (He.ga K x) "__init__")) = some (.type "function")) &&
  He.eqO (PySem.W.nsIn K mainGlobals x) (some (some (.ref (He.ga K x)))))))))
structure ExcK (K : PySem.W.Frag) (x : Str) : Prop where
  T : ExcT K (He.ga K x)
  iC : PySem.W.findIn K (.ref (He.ga K x)) "__init__" = some (some (.ref (He.ma K (He.ga K x) "__init__")))
  tI : PySem.W.typeIn K (.ref (He.ma K (He.ga K x) "__init__")) = some (.type "function")
  g : PySem.W.nsIn K mainGlobals x = some (some (.ref (He.ga K x)))
theorem excTB_ok {K : PySem.W.Frag} {x : Str} (h : excTB K x = true) : ExcK K x := by
  obtain ⟨h1, h⟩ := ba h
  obtain ⟨h2, h⟩ := ba h
  obtain ⟨h3, h⟩ := ba h
  obtain ⟨h4, h⟩ := ba h
  obtain ⟨h5, h⟩ := ba h
  obtain ⟨h6, h7⟩ := ba h
  exact ⟨⟨oexB_ok h1, of_decide_eq_true h2, He.eqO_ok h3, of_decide_eq_true h4⟩, He.eqO_ok h5, of_decide_eq_true h6, He.eqO_ok h7⟩
/-- what isinstance of a caught error asks -/
def excCB (K : PySem.W.Frag) (D : Addr) : Bool := He.eqO (PySem.W.findIn K (.ref D) "__getattribute__") (some (some (.builtin "BaseException.__getattribute__"))) && (He.eqO (PySem.W.findIn K (.ref D) "__getattr__") (some none) && (decide (PySem.W.subIn K (.ref D) (.type "BaseException") = some true) &&
  (PySem.W.hasDictIn K D && (He.eqO (PySem.W.findIn K (.ref D) "__class__") (some (some (.builtin "object.__class__"))) && (He.eqO (PySem.W.specialIn K (.builtin "object.__class__") "__get__") (some (some (.builtin "getset_descriptor.__get__"))) &&
  (decide (PySem.W.takesIn K (.builtin "object.__class__") = some true) && decide (PySem.W.mroIn K D (.type "object") = some true)))))))
theorem excCB_ok {K : PySem.W.Frag} {D : Addr} (h : excCB K D = true) : ExcC K D := by
  obtain ⟨h1, h⟩ := ba h
  obtain ⟨h2, h⟩ := ba h
  obtain ⟨h3, h⟩ := ba h
  obtain ⟨h4, h⟩ := ba h
  obtain ⟨h5, h⟩ := ba h
  obtain ⟨h6, h⟩ := ba h
  obtain ⟨h7, h8⟩ := ba h
  exact ⟨He.eqO_ok h1, He.eqO_ok h2, of_decide_eq_true h3, h4, He.eqO_ok h5, He.eqO_ok h6, of_decide_eq_true h7, of_decide_eq_true h8⟩
theorem XfC.of {K : PySem.W.Frag} {D : Addr} (c : ExcC K D) : XfC K D := ⟨c.hg, c.hk, c.hs, c.hd⟩

/-! ### a method that closes over __class__ -/
structure SupD where
  cls : Str
  meth : Str
  qual : Str
  params : Arguments
  body : List Stmt
  scope : Scope
abbrev PvSW : Type := Option (Str × Str × Arguments × FuncBody × Scope × Addr × List Str × Value × Value × Option Addr × Addr)
def SupD.fa (K : PySem.W.Frag) (d : SupD) : Addr := He.ma K (He.ga K d.cls) d.meth
def supW (K : PySem.W.Frag) (d : SupD) : PvSW := match K.lookup (d.fa K) with
  | some ⟨_, _, .func fd, _⟩ => some (fd.name, fd.qualname, fd.params, fd.body, fd.scope, fd.globals, fd.closure.map (·.1), fd.defaults, fd.kwdefaults, fd.annotations, fd.builtins)
  | _ => none
def SupD.val (d : SupD) : PvSW := some (d.meth, d.qual, d.params, .stmts d.body, d.scope, mainGlobals, ["__class__"], .none, .none, none, builtinsNs)
def fileB (file : Str) : Option Obj → Bool
  | some ⟨_, _, .fields vs, _⟩ => (match (vs[2]? : Option Value) with
    | some (.str f _) => decide (file = f)
    | _ => false)
  | _ => false
def cellB (D : Addr) : Option Obj → Bool
  | some ⟨_, _, .cell (some (.ref D')), _⟩ => decide (D' = D)
  | _ => false
def cloB (file : Str) (K : PySem.W.Frag) (D : Addr) (q : Str) : Value → List (Str × Addr) → Bool
  | .ref c, [(_, cc)] => PySem.W.codeIn K (.ref c) q && (fileB file (K.lookup c) && cellB D (K.lookup cc))
  | _, _ => false
def SupD.ok (file : Str) (K : PySem.W.Frag) (d : SupD) : Bool := PySem.W.keepIn K (.ref (d.fa K)) && ((PySem.W.clsIn K (He.ga K d.cls)).isSome && (match K.lookup (d.fa K) with
  | some ⟨_, _, .func fd, _⟩ => cloB file K (He.ga K d.cls) d.qual fd.code fd.closure
  | _ => false))
def SupD.nf (d : SupD) (cc c : Addr) : NF := ⟨d.meth, d.qual, d.params, d.body, d.scope, [("__class__", cc)], c⟩
theorem SupD.sup {file : Str} {P : Program} {K : PySem.W.Frag} {d : SupD} (e : supW K d = d.val) (c : d.ok file K = true) (hf : P.main.file = file) (ht : (P.main.scope.names.lookup ("super" : Str)).isSome = false) : ∃ cc co fd, SupF P K (d.fa K) (d.nf cc co) fd (He.ga K d.cls) := by
  obtain ⟨kp, c⟩ := ba c
  obtain ⟨hC, c⟩ := ba c
  unfold supW at e
  cases q : K.lookup (d.fa K) with
  | none =>
    rw [q] at c
    cases c
  | some o =>
    obtain ⟨oc, od, dt, osl⟩ := o
    rw [q] at c e
    cases dt with
    | func fd =>
      obtain ⟨n1, n2, n3, n4, n5, n6, n7, n8, n9, n10, n11, n12, n13, n14, n15⟩ := fd
      have e2 : (some (n1, n2, n3, n4, n5, n6, n7.map (·.1), n8, n9, n12, n15) : PvSW) = (some (d.meth, d.qual, d.params, FuncBody.stmts d.body, d.scope, mainGlobals, ["__class__"], Value.none, Value.none, none, builtinsNs) : PvSW) := e
      simp only [Option.some.injEq, Prod.mk.injEq] at e2
      obtain ⟨h1, h2, h3, h4, h5, h6, h7, h8, h9, h10, h11⟩ := e2
      subst h1 h2 h3 h4 h5 h6 h8 h9 h10 h11
      have c3 : cloB file K (He.ga K d.cls) d.qual n13 n7 = true := c
      clear c e
      unfold cloB at c3
      split at c3
      · rename_i co x cc
        have hx : x = ("__class__" : Str) := by simpa using h7
        subst hx
        obtain ⟨k1, k2⟩ := ba c3
        obtain ⟨k3, k4⟩ := ba k2
        refine ⟨cc, co, _, ⟨⟨oc, od, osl, n10, n11, n14, rfl, q⟩, k1, ?_, ?_, ?_, kp, ht⟩⟩
        · unfold fileB at k3
          split at k3
          · rename_i ccl cdd vs ccs hl
            split at k3
            · rename_i f t hv
              have hff := of_decide_eq_true k3
              refine ⟨ccl, cdd, vs, ccs, f, t, hl, hv, ?_⟩
              rw [hf, hff]
              exact beq_self_eq_true _
            · cases k3
          · cases k3
        · unfold cellB at k4
          split at k4
          · rename_i cl cld D' csl hl
            have hD := of_decide_eq_true k4
            subst hD
            exact ⟨cc, cl, cld, csl, rfl, hl⟩
          · cases k4
        · exact Option.isSome_iff_exists.mp hC
      · cases c3
    | _ => cases c

/-! ### the Hook -/
structure Hd where
  n : Nat
  bs : List (PySem.W.Frag → Bool)
  fn : List He.DefD
  sp : List SupD
  file : Str
abbrev AlP : Type := Bool × List He.FnW × List PvSW
def Hd.obs (h : Hd) (K : PySem.W.Frag) : AlP := ((h.bs.all fun f => f K) && ((h.fn.all fun d => d.ok K) && h.sp.all fun d => d.ok h.file K), h.fn.map fun d => He.fnW K d.at_, h.sp.map fun d => supW K d)
def Hd.val (h : Hd) : AlP := (true, h.fn.map He.DefD.val, h.sp.map SupD.val)
def Hd.Says (h : Hd) (K : PySem.W.Frag) : Prop := h.obs K = h.val
def Hd.as (h : Hd) (g : Addr → Option Obj) : List Addr := He.asD g h.n ++ [cStatics]
def Hd.ob (h : Hd) (g : Addr → Option Obj) : AlP := h.obs (He.frG g (h.as g))
def Hd.hook (h : Hd) : PySem.W.Hook where
  α := AlP
  obs := fun s => h.ob s.heap.get?
  val := fun _ => h.val
  says := fun _ hp => ∃ K : PySem.W.Frag, K.In hp ∧ h.Says K
  of := fun _ _ e => ⟨_, He.frG_in, e⟩
  keeps := fun _ _ _ ⟨K, hK, c⟩ k => ⟨K, PySem.W.Frag.In.keeps hK k, c⟩
theorem Hd.ob_eq {h : Hd} {g : Addr → Option Obj} {s : Shared} (e : ∀ a, g a = s.heap.get? a) : h.ob g = h.hook.obs s := by
  have e : g = s.heap.get? := funext e
  rw [e] <;> rfl
section
variable {hd : Hd} {K : PySem.W.Frag}
theorem Hd.Says.fact (c : hd.Says K) (i : Nat) {f : PySem.W.Frag → Bool} (h : hd.bs[i]? = some f := by rfl) : f K = true := by
  have c1 := (ba (show _ = true from congrArg (fun z : AlP => z.1) c)).1
  exact List.all_eq_true.mp c1 f (List.mem_of_getElem? h)
theorem Hd.Says.def_ (c : hd.Says K) (i : Nat) {d : He.DefD} (h : hd.fn[i]? = some d := by rfl) : ∃ fd, FunD K d.name d.qual d.params d.body d.scope (d.dvs K) (d.kws K) (He.fAd K d.at_) fd := by
  have c2 := (ba (ba (show _ = true from congrArg (fun z : AlP => z.1) c)).2).1
  have e : hd.fn.map (fun d => He.fnW K d.at_) = hd.fn.map He.DefD.val := congrArg (fun z : AlP => z.2.1) c
  have e2 : (hd.fn.map fun d => He.fnW K d.at_)[i]? = (hd.fn.map He.DefD.val)[i]? := by rw [e]
  rw [List.getElem?_map, List.getElem?_map, h] at e2
  exact He.DefD.funD (Option.some.inj e2) (List.all_eq_true.mp c2 d (List.mem_of_getElem? h))
theorem Hd.Says.sup (c : hd.Says K) (i : Nat) {P : Program} {d : SupD} (h : hd.sp[i]? = some d) (hf : P.main.file = hd.file) (ht : (P.main.scope.names.lookup ("super" : Str)).isSome = false) : ∃ cc co fd, SupF P K (d.fa K) (d.nf cc co) fd (He.ga K d.cls) := by
  have c2 := (ba (ba (show _ = true from congrArg (fun z : AlP => z.1) c)).2).2
  have e : hd.sp.map (fun d => supW K d) = hd.sp.map SupD.val := congrArg (fun z : AlP => z.2.2) c
  have e2 : (hd.sp.map fun d => supW K d)[i]? = (hd.sp.map SupD.val)[i]? := by rw [e]
  rw [List.getElem?_map, List.getElem?_map, h] at e2
  exact SupD.sup (Option.some.inj e2) (List.all_eq_true.mp c2 d (List.mem_of_getElem? h)) hf ht
end
/-- all that a def's derivation asks -/
structure Bun (hd : Hd) (K : PySem.W.Frag) (mg : Str → Option Value) : Prop where
  c : hd.Says K
  g : ∃ h : Heap, K.In h ∧ h.Ns mainGlobals mg
section
variable {hd : Hd} {K : PySem.W.Frag} {mg : Str → Option Value}
theorem Bun.free (B : Bun hd K mg) (i : Nat) {x : Str} (h : hd.bs[i]? = some (fun K => (He.Fa.free x).ok K) := by rfl) : mg x = none := by
  obtain ⟨hp, X, G⟩ := B.g
  exact He.free_ok X G (B.c.fact i h)
theorem Bun.glo (B : Bun hd K mg) (i : Nat) {x : Str} (h : hd.bs[i]? = some (fun K => (He.Fa.glo x).ok K) := by rfl) : mg x = some (.ref (He.ga K x)) := by
  obtain ⟨hp, X, G⟩ := B.g
  exact He.glo_ok X G (B.c.fact i h)
def isV (x : Str) (v : Value) : PySem.W.Frag → Bool := fun K => He.eqO (PySem.W.nsIn K mainGlobals x) (some (some v))
theorem Bun.val (B : Bun hd K mg) (i : Nat) {x : Str} {v : Value} (h : hd.bs[i]? = some (isV x v) := by rfl) : mg x = some v := by
  obtain ⟨hp, X, G⟩ := B.g
  exact PySem.W.mg_of X G (He.eqO_ok (B.c.fact i h))
def staB : PySem.W.Frag → Bool := fun K => He.eqO (PySem.W.nsIn K cStatics "thirdparty.any") (some none)
theorem Bun.sta (B : Bun hd K mg) (i : Nat) (h : hd.bs[i]? = some staB := by rfl) : PySem.W.nsIn K cStatics "thirdparty.any" = some none := He.eqO_ok (B.c.fact i h)
def excB (x : Str) : PySem.W.Frag → Bool := fun K => excTB K x && excCB K (He.ga K x)
theorem Bun.exc (B : Bun hd K mg) (i : Nat) {x : Str} (h : hd.bs[i]? = some (excB x) := by rfl) : ExcK K x ∧ ExcC K (He.ga K x) ∧ mg x = some (.ref (He.ga K x)) := by
  obtain ⟨hp, X, G⟩ := B.g
  obtain ⟨h1, h2⟩ := ba (B.c.fact i h)
  exact ⟨excTB_ok h1, excCB_ok h2, PySem.W.mg_of X G (excTB_ok h1).g⟩
def noB (x f : Str) : PySem.W.Frag → Bool := fun K => He.eqO (PySem.W.findIn K (.ref (He.ga K x)) f) (some none)
theorem Bun.no (B : Bun hd K mg) (i : Nat) {x f : Str} (h : hd.bs[i]? = some (noB x f) := by rfl) : PySem.W.findIn K (.ref (He.ga K x)) f = some none := He.eqO_ok (B.c.fact i h)
def exmB (x y : Str) (b : Bool) : PySem.W.Frag → Bool := fun K => decide (PySem.W.exmOne K (.ref (He.ga K x)) (.ref (He.ga K y)) = some b)
theorem Bun.exm (B : Bun hd K mg) (i : Nat) {x y : Str} {b : Bool} (h : hd.bs[i]? = some (exmB x y b) := by rfl) : PySem.W.exmOne K (.ref (He.ga K x)) (.ref (He.ga K y)) = some b := of_decide_eq_true (B.c.fact i h)
def kitG (x y : Str) (b : Bool) : PySem.W.Frag → Bool := fun K => decide (PySem.W.kitOne K (.ref (He.ga K x)) (.ref (He.ga K y)) = some b)
theorem Bun.kitG (B : Bun hd K mg) (i : Nat) {x y : Str} {b : Bool} (h : hd.bs[i]? = some (kitG x y b) := by rfl) : PySem.W.kitOne K (.ref (He.ga K x)) (.ref (He.ga K y)) = some b := of_decide_eq_true (B.c.fact i h)
def kitT (x : Str) (T : String) (b : Bool) : PySem.W.Frag → Bool := fun K => decide (PySem.W.kitOne K (.ref (He.ga K x)) (.type T) = some b)
theorem Bun.kitT (B : Bun hd K mg) (i : Nat) {x : Str} {T : String} {b : Bool} (h : hd.bs[i]? = some (kitT x T b) := by rfl) : PySem.W.kitOne K (.ref (He.ga K x)) (.type T) = some b := of_decide_eq_true (B.c.fact i h)
end
/-- a def at the module's name x: its promise, its place -/
structure Has (P : Program) (w : World) (K : PySem.W.Frag) (mg : Str → Option Value) (k : Nat) (x : Str) (ps : List Str) (sp : Sp) : Prop where
  ok : ∃ fd, (∀ base : Heap, FnOk P w K mg base (L2.CX P w) k (He.ga K x) fd ps sp) ∧ Binds K fd ps [] ∧ ∀ (s : Shared) (us : List Value), us.length = ps.length → BindsTo s fd ⟨us, []⟩ (ps.zip us)
  kp : PySem.W.keepIn K (.ref (He.ga K x)) = true
  g : mg x = some (.ref (He.ga K x))
/-- an own error's __init__ -/
structure HasX (P : Program) (w : World) (K : PySem.W.Frag) (mg : Str → Option Value) (x : Str) (ps fl : List Str) : Prop where
  ok : ∃ fd, (∀ base : Heap, FnOk P w K mg base (L2.CX P w) 1 (He.ma K (He.ga K x) "__init__") fd ps (spEx K (He.ga K x) fl)) ∧ Binds K fd ps []
  e : ExcK K x
  c : ExcC K (He.ga K x)
  g : mg x = some (.ref (He.ga K x))
section
variable {X : Cx} {c : Cl} {W : WX}
theorem qe_callF {ps : List Str} {n k : Nat} {ms : List Bool} {m : List D → Rv} {x : Str} {p pos : Pos} {ex : Expr} {es : List Expr} {as : Sm (List D)} (F : Has X.prog X.w X.K X.mg k x ps (spP X.K n ms m)) (hK : X.K = c.K) (hr : Room k X.A) (tk : Takes X W) (hg : Gl X x) (ha : PA X (ex :: es) (tA c W as))
    (hdb : (x == ("__debug__" : Str)) = false := by decide) (he : starEach (ex :: es) X.env = (false, eval ex X.env) :: starEach es X.env := by rfl) (hpl : (backTo pos (starEach es X.env)).any (·.1) = false := by rfl) :
    PE X (.Call (.Name x p) (ex :: es) [] pos) (tI c W (sCall n m as)) := by
  obtain ⟨fd, hF, hb, _⟩ := F.ok
  exact qe_call hK (hF _) hr hg F.g F.kp hb tk ha hdb he hpl
theorem qs_raiseX {x : Str} {fl ps : List Str} {ex : Expr} {es : List Expr} {ms : Sm (List PV.D)} {p p2 pos : Pos} (F : HasX X.prog X.w X.K X.mg x ps fl) (hK : X.K = c.K) (hc : X.calm = true) (tk : Takes X W) (hr : Room 2 X.A) (hg : Gl X x) (ha : PA X (ex :: es) (tA c W ms)) (hfl : fl.length ≤ 100 := by decide)
    (hdb : (x == ("__debug__" : Str)) = false := by decide) (he : starEach (ex :: es) X.env = (false, eval ex X.env) :: starEach es X.env := by rfl) (hpl : (backTo p2 (starEach es X.env)).any (·.1) = false := by rfl) :
    PS X (.Raise (some (.Call (.Name x p) (ex :: es) [] p2)) none pos) (tS c W (sRaise x fl ms)) := by
  obtain ⟨fd, hF, hb⟩ := F.ok
  exact qs_raise hK hc tk hfl F.e.T F.e.iC F.e.tI (hF _) hr hb hg F.g ha hdb he hpl
theorem takes_f : Takes X Wf := fun u s' ⟨a, B, sI, pins, σ, H, cls, d, e, I, nb, up, sky, na, os, ag, w⟩ => w.elim
theorem all_nil {α : Type} {p : α → Prop} : ∀ x ∈ ([] : List α), p x := fun x h => absurd h (by simp)
theorem all_cons {α : Type} {p : α → Prop} {a : α} {l : List α} (h : p a) (t : ∀ x ∈ l, p x) : ∀ x ∈ a :: l, p x := fun x hx => (List.mem_cons.mp hx).elim (fun e => e ▸ h) (t x)
end
end PV

/-! Built-ins by name. -/
namespace PV
open PySem PySem.Spec PyProof.Rows L2 NdefX
theorem bt_abs : bootBuiltins "abs" = some (.builtin "abs") := by kernel_rfl
theorem bt_min : bootBuiltins "min" = some (.builtin "min") := by kernel_rfl
theorem bt_max : bootBuiltins "max" = some (.builtin "max") := by kernel_rfl
theorem bt_len : bootBuiltins "len" = some (.builtin "len") := by kernel_rfl
theorem bt_int : bootBuiltins "int" = some (.type "int") := by kernel_rfl
theorem bt_list : bootBuiltins "list" = some (.type "list") := by kernel_rfl
theorem bt_bool : bootBuiltins "bool" = some (.type "bool") := by kernel_rfl
theorem bt_str : bootBuiltins "str" = some (.type "str") := by kernel_rfl
theorem bt_tuple : bootBuiltins "tuple" = some (.type "tuple") := by kernel_rfl
theorem bt_dict : bootBuiltins "dict" = some (.type "dict") := by kernel_rfl
theorem bt_isinstance : bootBuiltins "isinstance" = some (.builtin "isinstance") := by kernel_rfl
theorem bt_ValueError : bootBuiltins "ValueError" = some (.type "ValueError") := by kernel_rfl
section
variable {X : Cx} {c : Cl} {W : WX}
theorem relTy {u : Value} {T : String} (h : RelV (.ty T) u) : u = .type T := h
theorem relRf {u : Value} {a : Addr} (h : RelV (.ref a) u) : u = .ref a := h
theorem gl_cls {x : Str} {p : Pos} (hg : Gl X x) (hm : X.mg x = some (.ref (He.ga X.K x))) (hd : (x == ("__debug__" : Str)) = false := by decide) : PE X (.Name x p) (tC (.ref (He.ga X.K x))) := pe_glob hg hm rfl hd
theorem gl_ty {x : Str} {T : String} {p : Pos} (hg : Gl X x) (hm : X.mg x = none) (hv : bootBuiltins x = some (.type T)) (hn : x ≠ "__name__" := by decide) (hd : (x == ("__debug__" : Str)) = false := by decide) : PE X (.Name x p) (tC (.ty T)) := pe_bltn (v := .ty T) hg hm hv rfl hn hd
/-- a def's promise from its body, at the module's name -/
theorem has_of {P : Program} {w : World} {K : PySem.W.Frag} {mg : Str → Option Value} {hd : Hd} {x : Str} {params : Arguments} {body : List Stmt} {scope : Scope} {N ps : List Str} {k n : Nat} {ms : List Bool} {m : Sm Fl} (B : Bun hd K mg) {q : Str} (hat : q = x)
    (F : ∃ fd, FunD K q q params body scope [] [] (He.ga K x) fd) (S : FnScope N ps scope) (hn : ps.length = n) (g : mg x = some (.ref (He.ga K x)))
    (hbi : ∀ (kV doc pm : Value) (an : Option Addr) (cdv ct : Value) (us : List Value), us.length = ps.length → bindArgs (PySem.W.fnOf q q params body scope .none kV doc pm an cdv ct) ⟨us, []⟩ = pure (ps.zip us))
    (hb : ∀ (base : Heap) (f : Addr) (cdv : Value) (A : Around) (outer : List PySem.Env) (s : Shared) (H : Hp) (E : XK) (c : Cl), c.K = K → c.hx = none → Room k (A.deeper (envOfC q scope s.heap.objs.size f cdv)) →
      PSs (cxOf (L2.CX P w) P w K mg base N q scope f cdv A outer s H E) body (tS c (fun cls d _ H => E cls d H) m)) :
    Has P w K mg (k + 1) x ps (spP K n ms (runF N.length ms m)) := by
  obtain ⟨fd, F⟩ := F
  exact ⟨⟨fd, fun base => fn_rule F S hn fun cdv A outer s H E c hc hx hr => hb base _ cdv A outer s H E c hc hx hr, F.bindsN hbi, fun s us hl => F.bindsA hbi s us hl⟩, F.kp, g⟩
theorem pvV (i : Nat) {x : Str} {pos : Pos} (hN : X.N[i]? = some x := by rfl) (hv : Vis X.env.scope x := by first | exact Or.inl rfl | exact Or.inr (Or.inl rfl) | exact Or.inr (Or.inr rfl)) (hd : (x == ("__debug__" : Str)) = false := by decide)
    (hcd : (x == ("__classdict__" : Str)) = false := by decide) : PE X (.Name x pos) (tVar i) := pe_var hN hv hd hcd
theorem _root_.PV.SupF.binds {P : Program} {K : PySem.W.Frag} {f D : Addr} {F : NF} {fd : FuncData} {ps : List Str} (G : SupF P K f F fd D) (h : ∀ (doc pm ctv : Value) (us : List Value), us.length = ps.length → bindArgs (F.fd doc pm ctv) ⟨us, []⟩ = pure (ps.zip us)) : Binds K fd ps [] := by
  obtain ⟨oc, od, osl, doc, pm, ctv, rfl, lk⟩ := G.lk
  exact .all (h doc pm ctv)
structure PFile (hd : Hd) (P : Program) : Prop where
  file : P.main.file = hd.file
  top : (P.main.scope.names.lookup ("super" : Str)).isSome = false
theorem sp_law {K : PySem.W.Frag} {m : List D → Rv} {H : Hp} {a : Addr} {ns : List Int} (hm : m [.scr ns] = .ok (.bl true)) (hS : SqL K H a (ns.map V.int)) : spP K 1 [] m [.ref a] H (fun v _ => v = .bl true) fun _ _ _ => False := by
  refine ⟨H, [.scr ns], rfl, Ext.refl H, ⟨.ref a, [], rfl, ⟨a, rfl, hS⟩, by unfold RepAs; rfl⟩, ?_⟩
  rw [hm]
  intro G' H' v _ _ _ _ f
  exact f.bl
def clsAt (s : Stmt) (j : Nat) : Stmt := match s with
  | .ClassDef _ _ _ b _ _ _ _ _ _ _ => b.getD j (.Pass ⟨0, 0, 0, 0⟩)
  | _ => .Pass ⟨0, 0, 0, 0⟩
def SupD.of (cls qual : Str) (s : Stmt) : SupD := ⟨cls, "__init__", qual, defArgs s, defBody s, defScope s⟩
def dfD (x : Str) (s : Stmt) : He.DefD := ⟨(x, none), x, x, defArgs s, defBody s, defScope s, [], []⟩
theorem Bun.def_ {hd : Hd} {K : PySem.W.Frag} {mg : Str → Option Value} (B : Bun hd K mg) (i : Nat) {x : Str} {s : Stmt} (h : hd.fn[i]? = some (dfD x s) := by rfl) : ∃ fd, FunD K x x (defArgs s) (defBody s) (defScope s) [] [] (He.ga K x) fd := B.c.def_ i h
end
end PV

/-! Reckoning with the value semantics. -/
namespace PV
open PySem PySem.Spec PyProof.Rows L2 NdefX
/-! ### sizes -/
theorem log2_le {i n : Nat} (h : i < 2 ^ n) : i.log2 ≤ n := by
  by_cases h0 : i = 0
  · subst h0
    simp
  · exact Nat.le_of_lt ((Nat.log2_lt h0).mpr h)
def Sm2 (n : Nat) (i : Int) : Prop := i.natAbs < 2 ^ n
theorem Sm2.mono {n m : Nat} {i : Int} (h : Sm2 n i) (l : n ≤ m) : Sm2 m i := Nat.lt_of_lt_of_le h (Nat.pow_le_pow_right (by decide) l)
theorem Sm2.mul {n m : Nat} {i j : Int} (h : Sm2 n i) (k : Sm2 m j) : Sm2 (n + m) (i * j) := by
  unfold Sm2 at *
  rw [Int.natAbs_mul, Nat.pow_add]
  exact Nat.mul_lt_mul'' h k
theorem Sm2.neg {n : Nat} {i : Int} (h : Sm2 n i) : Sm2 n (-i) := by
  unfold Sm2 at *
  rwa [Int.natAbs_neg]
theorem Sm2.add {n : Nat} {i j : Int} (h : Sm2 n i) (k : Sm2 n j) : Sm2 (n + 1) (i + j) := by
  unfold Sm2 at *
  rw [Nat.pow_succ]
  have := Int.natAbs_add_le i j
  omega
theorem Sm2.sub {n : Nat} {i j : Int} (h : Sm2 n i) (k : Sm2 n j) : Sm2 (n + 1) (i - j) := by
  rw [Int.sub_eq_add_neg]
  exact h.add k.neg
theorem Sm2.mulC {n m : Nat} {i j : Int} (h : Sm2 n i) (k : Sm2 m j) (l : n + m < 1000000) : mulC i j = true := by
  unfold PV.mulC
  have a := log2_le h
  have b := log2_le k
  exact decide_eq_true (by omega)
theorem Sm2.divC {n : Nat} {i j : Int} (h : Sm2 n j) (l : n < 9000) (p : 0 < j) : divC i j = true := by
  unfold PV.divC
  have a := log2_le h
  exact decide_eq_true ⟨p, by omega⟩
theorem Sm2.of {n k : Nat} {i : Int} (h : i.natAbs < k) (l : k ≤ 2 ^ n) : Sm2 n i := Nat.lt_of_lt_of_le h l

/-! ### steps -/
@[simp] theorem e_ok {α β : Type} {a : α} {e : PV.Env} {k : α → PV.Env → Rs β} : Rs.bind (.ok a e) k = k a e := Eq.trans rfl rfl
@[simp] theorem e_exc {α β : Type} {x : Exc} {e : PV.Env} {k : α → PV.Env → Rs β} : Rs.bind (.exc x e : Rs α) k = .exc x e := Eq.trans rfl rfl
@[simp] theorem e_stuck {α β : Type} {k : α → PV.Env → Rs β} : Rs.bind (.stuck : Rs α) k = .stuck := Eq.trans rfl rfl
@[simp] theorem e_fz (d : D) : (O.fz d).toD = d := by rw [O.toD]
@[simp] theorem e_lst (os : List O) : (O.lst os).toD = .lst (O.toDs os) := by rw [O.toD]
@[simp] theorem ds_nil : O.toDs [] = [] := by rw [O.toDs]
@[simp] theorem ds_cons (o : O) (os : List O) : O.toDs (o :: os) = o.toD :: O.toDs os := by rw [O.toDs]
@[simp] theorem ds_fz (ds : List D) : O.toDs (ds.map O.fz) = ds := toDs_fz ds
@[simp] theorem ds_fz2 {α : Type} (f : α → D) (l : List α) : O.toDs (l.map (O.fz ∘ f)) = l.map f := by rw [← List.map_map, toDs_fz]
@[simp] theorem ds_app (os ps : List O) : O.toDs (os ++ ps) = O.toDs os ++ O.toDs ps := by rw [toDs_map, toDs_map, toDs_map, List.map_append]
@[simp] theorem i_add (i j : Int) : pAdd (.int i) (.int j) = some (.fz (.int (i + j))) := Eq.trans rfl rfl
@[simp] theorem i_sub (i j : Int) : iSub (.int i) (.int j) = some (.fz (.int (i - j))) := Eq.trans rfl rfl
@[simp] theorem i_mul {i j : Int} (h : mulC i j = true) : iMul (.int i) (.int j) = some (.fz (.int (i * j))) := by
  show (if mulC i j then _ else none) = _
  rw [if_pos h]
@[simp] theorem i_fdiv {i j : Int} (h : divC i j = true) : iFdiv (.int i) (.int j) = some (.fz (.int (i / j))) := by
  show (if divC i j then _ else none) = _
  rw [if_pos h]
@[simp] theorem i_mod {i j : Int} (h : 0 < j) : iMod (.int i) (.int j) = some (.fz (.int (i % j))) := by
  show (if modC i j then _ else none) = _
  rw [if_pos (show modC i j = true from decide_eq_true h)]
@[simp] theorem i_pow {i j : Int} (h : powC i j = true) : iPow (.int i) (.int j) = some (.fz (.int (i ^ j.toNat))) := by
  show (if powC i j then _ else none) = _
  rw [if_pos h]
@[simp] theorem i_lt (i j : Int) : iLt (.int i) (.int j) = some (.fz (.bl (decide (i < j)))) := Eq.trans rfl rfl
@[simp] theorem i_le (i j : Int) : iLe (.int i) (.int j) = some (.fz (.bl (decide (i ≤ j)))) := Eq.trans rfl rfl
@[simp] theorem i_gt (i j : Int) : iGt (.int i) (.int j) = some (.fz (.bl (decide (j < i)))) := Eq.trans rfl rfl
@[simp] theorem i_ge (i j : Int) : iGe (.int i) (.int j) = some (.fz (.bl (decide (j ≤ i)))) := Eq.trans rfl rfl
@[simp] theorem i_neg (i : Int) : negD (.int i) = some (.fz (.int (-i))) := Eq.trans rfl rfl
@[simp] theorem b_not (b : Bool) : notD (.bl b) = some (.fz (.bl (!b))) := Eq.trans rfl rfl
@[simp] theorem b_abs (i : Int) : absB [.int i] = some (.fz (.int (if i < 0 then -i else i))) := Eq.trans rfl rfl
@[simp] theorem b_min (i j : Int) : minB [.int i, .int j] = some (.fz (.int (if j < i then j else i))) := Eq.trans rfl rfl
@[simp] theorem b_max (i j : Int) : maxB [.int i, .int j] = some (.fz (.int (if j > i then j else i))) := Eq.trans rfl rfl
@[simp] theorem b_int (i : Int) : intB [.int i] = some (.fz (.int i)) := Eq.trans rfl rfl
@[simp] theorem b_gcd (i j : Int) : gcdB [.int i, .int j] = some (.fz (.int ((Nat.gcd i.natAbs j.natAbs : Nat) : Int))) := Eq.trans rfl rfl
@[simp] theorem beq_int (n : Bool) (i j : Int) : eqB n (.int i) (.int j) = some (.fz (.bl (if n then !decide (i = j) else decide (i = j)))) := by
  unfold eqB
  rw [D.toP, D.toP]
  show (if SeqAt.shaped (.int i) && SeqAt.shaped (.int j) then _ else none) = _
  rw [if_pos (by rfl)]
  have : PyData.eqv (.int i) (.int j) = decide (i = j) := by
    first | rfl | simp [PyData.eqv]
  rw [this]
@[simp] theorem beq_bl (n : Bool) (i j : Bool) : eqB n (.bl i) (.bl j) = some (.fz (.bl (if n then !decide (i = j) else decide (i = j)))) := by
  cases n <;> cases i <;> cases j <;> rfl
theorem beq_str (n : Bool) {i j : Str} (h1 : PyData.strOk i = true) (h2 : PyData.strOk j = true) : eqB n (.str i) (.str j) = some (.fz (.bl (if n then !decide (i = j) else decide (i = j)))) := by
  unfold eqB
  rw [D.toP, D.toP]
  have h3 : (SeqAt.shaped (.str i) && SeqAt.shaped (.str j)) = true := by simp [SeqAt.shaped, PyData.canLay0, PyData.depth, h1, h2]
  show (if SeqAt.shaped (.str i) && SeqAt.shaped (.str j) then _ else none) = _
  rw [if_pos h3]
  have : PyData.eqv (.str i) (.str j) = decide (i = j) := by
    first | rfl | (simp [PyData.eqv]; done) | (rw [PyData.eqv]; exact beq_eq_decide ..)
  rw [this]
@[simp] theorem beq_pair (n : Bool) (a b i j : Int) : eqB n (.tup [.int a, .int b]) (.tup [.int i, .int j]) = some (.fz (.bl (if n then !decide (a = i ∧ b = j) else decide (a = i ∧ b = j)))) := by
  have h1 : (D.tup [.int a, .int b]).toP = some (.tuple [.int a, .int b]) := by simp [D.toP, D.toPs]
  have h2 : (D.tup [.int i, .int j]).toP = some (.tuple [.int i, .int j]) := by simp [D.toP, D.toPs]
  unfold eqB
  rw [h1, h2]
  have h3 : (SeqAt.shaped (.tuple [.int a, .int b]) && SeqAt.shaped (.tuple [.int i, .int j])) = true := by simp [SeqAt.shaped, PyData.canLay0, PyData.canLayAll0, PyData.depth, PyData.depthAll]
  show (if SeqAt.shaped (.tuple [.int a, .int b]) && SeqAt.shaped (.tuple [.int i, .int j]) then _ else none) = _
  rw [if_pos h3]
  have h4 : PyData.eqv (.tuple [.int a, .int b]) (.tuple [.int i, .int j]) = decide (a = i ∧ b = j) := by
    (simp [PyData.eqv, PyData.eqvAll, Bool.decide_and]; rfl)
  rw [h4]

/-! ### applied -/
@[simp] theorem sVar_ap {i : Nat} {e : PV.Env} : (sVar i) e = match e[i]? with
  | some (.o o) => .ok (.fz o.toD) (e.set i (.o (.fz o.toD)))
  | _ => .stuck := Eq.trans rfl rfl
@[simp] theorem sC_ap {d : D} {e : PV.Env} : (sC d) e = .ok (.fz d) e := Eq.trans rfl rfl
@[simp] theorem sBin_ap {op : D → D → Option O} {a b : Sm O} {e : PV.Env} : (sBin op a b) e = (a e).bind fun x e1 => (b e1).bind fun y e2 => match op x.toD y.toD with
  | some z => .ok z e2
  | none => .stuck := Eq.trans rfl rfl
@[simp] theorem sUn_ap {op : D → Option O} {a : Sm O} {e : PV.Env} : (sUn op a) e = (a e).bind fun x e1 => match op x.toD with
  | some z => .ok z e1
  | none => .stuck := Eq.trans rfl rfl
@[simp] theorem sNil_ap {e : PV.Env} : sNil e = .ok [] e := Eq.trans rfl rfl
@[simp] theorem sCons_ap {a : Sm O} {b : Sm (List D)} {e : PV.Env} : (sCons a b) e = (a e).bind fun o e1 => (b e1).bind fun ds e2 => .ok (o.toD :: ds) e2 := Eq.trans rfl rfl
@[simp] theorem sTup_ap {m : Sm (List D)} {e : PV.Env} : (sTup m) e = (m e).bind fun ds e1 => if few ds then .ok (.fz (.tup ds)) e1 else .stuck := Eq.trans rfl rfl
@[simp] theorem sLst_ap {m : Sm (List D)} {e : PV.Env} : (sLst m) e = (m e).bind fun ds e1 => if few ds then .ok (.lst (ds.map .fz)) e1 else .stuck := Eq.trans rfl rfl
@[simp] theorem sIdxV_ap {i : Nat} {m : Sm O} {e : PV.Env} : (sIdxV i m) e = if held e i then (m e).bind fun k e1 => match e1[i]? with
    | some s => (match ixV s k.toD with
      | some d => .ok (.fz d) e1
      | none => .stuck)
    | none => .stuck
  else .stuck := Eq.trans rfl rfl
@[simp] theorem sBi_ap {op : List D → Option O} {m : Sm (List D)} {e : PV.Env} : (sBi op m) e = (m e).bind fun ds e1 => match op ds with
  | some z => .ok z e1
  | none => .stuck := Eq.trans rfl rfl
@[simp] theorem sAsT_ap {m : Sm O} {e : PV.Env} : (sAsT m) e = (m e).bind fun o e1 => match o.toD with
  | .bl b => .ok b e1
  | _ => .stuck := Eq.trans rfl rfl
@[simp] theorem sTru_ap {m : Sm O} {e : PV.Env} : (sTru m) e = (m e).bind fun o e1 => match truD o.toD with
  | some b => .ok b e1
  | none => .stuck := Eq.trans rfl rfl
@[simp] theorem sNotT_ap {t : Sm Bool} {e : PV.Env} : (sNotT t) e = (t e).bind fun b e1 => .ok (!b) e1 := Eq.trans rfl rfl
@[simp] theorem sAndT_ap {t u : Sm Bool} {e : PV.Env} : (sAndT t u) e = (t e).bind fun b e1 => if b then u e1 else .ok false e1 := Eq.trans rfl rfl
@[simp] theorem sOrT_ap {t u : Sm Bool} {e : PV.Env} : (sOrT t u) e = (t e).bind fun b e1 => if b then .ok true e1 else u e1 := Eq.trans rfl rfl
@[simp] theorem sAnd_ap {a b : Sm O} {e : PV.Env} : (sAnd a b) e = (a e).bind fun o e1 => match o.toD with
  | .bl true => b e1
  | .bl false => .ok (.fz (.bl false)) e1
  | _ => .stuck := Eq.trans rfl rfl
@[simp] theorem sOr_ap {a b : Sm O} {e : PV.Env} : (sOr a b) e = (a e).bind fun o e1 => match o.toD with
  | .bl true => .ok (.fz (.bl true)) e1
  | .bl false => b e1
  | _ => .stuck := Eq.trans rfl rfl
@[simp] theorem sIfE_ap {t : Sm Bool} {a b : Sm O} {e : PV.Env} : (sIfE t a b) e = (t e).bind fun k e1 => if k then a e1 else b e1 := Eq.trans rfl rfl
@[simp] theorem sCall_ap {n : Nat} {m : List D → Rv} {as : Sm (List D)} {e : PV.Env} : (sCall n m as) e = (as e).bind fun ds e1 => if ds.length = n then (match m ds with
    | .stuck => .stuck
    | .ok d => .ok (.fz d) e1
    | .exc x => .exc x e1)
  else .stuck := Eq.trans rfl rfl
@[simp] theorem sSkip_ap {e : PV.Env} : sSkip e = .ok .nx e := Eq.trans rfl rfl
@[simp] theorem sSeq_ap {a b : Sm Fl} {e : PV.Env} : (sSeq a b) e = match a e with
  | .ok .nx e1 => b e1
  | r => r := Eq.trans rfl rfl
@[simp] theorem sSet_ap {i : Nat} {m : Sm O} {e : PV.Env} : (sSet i m) e = (m e).bind fun o e1 => if i < e1.length then .ok .nx (e1.set i (.o o)) else .stuck := Eq.trans rfl rfl
@[simp] theorem sRet_ap {m : Sm O} {e : PV.Env} : (sRet m) e = (m e).bind fun o e1 => .ok (.rt o.toD) e1 := Eq.trans rfl rfl
@[simp] theorem sRetN_ap {e : PV.Env} : sRetN e = .ok (.rt .non) e := Eq.trans rfl rfl
@[simp] theorem sIf_ap {t : Sm Bool} {a b : Sm Fl} {e : PV.Env} : (sIf t a b) e = (t e).bind fun k e1 => if k then a e1 else b e1 := Eq.trans rfl rfl
@[simp] theorem sEx_ap {m : Sm O} {e : PV.Env} : (sEx m) e = (m e).bind fun _ e1 => .ok .nx e1 := Eq.trans rfl rfl
@[simp] theorem sBrk_ap {e : PV.Env} : sBrk e = .ok .bk e := Eq.trans rfl rfl
@[simp] theorem sCnt_ap {e : PV.Env} : sCnt e = .ok .ct e := Eq.trans rfl rfl
@[simp] theorem sRaise_ap {c : Str} {l : List Str} {m : Sm (List D)} {e : PV.Env} : (sRaise c l m) e = (m e).bind fun ds e1 => if ds.length = l.length then .exc ⟨c, l, ds⟩ e1 else .stuck := Eq.trans rfl rfl
@[simp] theorem sFor_ap {it : Sm Its} {put : D → PV.Env → Option PV.Env} {b : Sm Fl} {e : PV.Env} : (sFor it put b) e = (it e).bind fun p e1 => loopF put b p.1 e1 := Eq.trans rfl rfl
@[simp] theorem sP0_ap {e : PV.Env} : sP0 e = .ok none e := Eq.trans rfl rfl
@[simp] theorem sYes_ap {e : PV.Env} : sYes e = .ok true e := Eq.trans rfl rfl
@[simp] theorem sLenV_ap {i : Nat} {e : PV.Env} : sLenV i e = match e[i]? with
  | some s => (match lenV s with
    | some n => .ok (.fz (.int n)) e
    | none => .stuck)
  | none => .stuck := Eq.trans rfl rfl
@[simp] theorem few_eq (ds : List D) : few ds = decide (ds.length ≤ 1000) := by
  unfold few
  rw [Bool.eq_iff_iff]
  simp
@[simp] theorem tru_bl (b : Bool) : truD (.bl b) = some b := Eq.trans rfl rfl
@[simp] theorem tru_int (i : Int) : truD (.int i) = some (i != 0) := Eq.trans rfl rfl
@[simp] theorem held_o {e : PV.Env} {o : O} : held (.o o :: e) 0 = true := Eq.trans rfl rfl
@[simp] theorem held_b {e : PV.Env} {ds : List D} : held (.bo ds :: e) 0 = true := Eq.trans rfl rfl
@[simp] theorem held_s {e : PV.Env} {s : Sl} {i : Nat} : held (s :: e) (i + 1) = held e i := Eq.trans rfl rfl
@[simp] theorem isi_NoneType_bool : isiD "bool" .non = some (.fz (.bl false)) := Eq.trans rfl rfl
@[simp] theorem isi_NoneType_int : isiD "int" .non = some (.fz (.bl false)) := Eq.trans rfl rfl
@[simp] theorem isi_NoneType_str : isiD "str" .non = some (.fz (.bl false)) := Eq.trans rfl rfl
@[simp] theorem isi_NoneType_tuple : isiD "tuple" .non = some (.fz (.bl false)) := Eq.trans rfl rfl
@[simp] theorem isi_NoneType_list : isiD "list" .non = some (.fz (.bl false)) := Eq.trans rfl rfl
@[simp] theorem isi_NoneType_dict : isiD "dict" .non = some (.fz (.bl false)) := Eq.trans rfl rfl
@[simp] theorem isi_bool_bool (b : Bool) : isiD "bool" (.bl b) = some (.fz (.bl true)) := Eq.trans rfl rfl
@[simp] theorem isi_bool_int (b : Bool) : isiD "int" (.bl b) = some (.fz (.bl true)) := Eq.trans rfl rfl
@[simp] theorem isi_bool_str (b : Bool) : isiD "str" (.bl b) = some (.fz (.bl false)) := Eq.trans rfl rfl
@[simp] theorem isi_bool_tuple (b : Bool) : isiD "tuple" (.bl b) = some (.fz (.bl false)) := Eq.trans rfl rfl
@[simp] theorem isi_bool_list (b : Bool) : isiD "list" (.bl b) = some (.fz (.bl false)) := Eq.trans rfl rfl
@[simp] theorem isi_bool_dict (b : Bool) : isiD "dict" (.bl b) = some (.fz (.bl false)) := Eq.trans rfl rfl
@[simp] theorem isi_int_bool (i : Int) : isiD "bool" (.int i) = some (.fz (.bl false)) := Eq.trans rfl rfl
@[simp] theorem isi_int_int (i : Int) : isiD "int" (.int i) = some (.fz (.bl true)) := Eq.trans rfl rfl
@[simp] theorem isi_int_str (i : Int) : isiD "str" (.int i) = some (.fz (.bl false)) := Eq.trans rfl rfl
@[simp] theorem isi_int_tuple (i : Int) : isiD "tuple" (.int i) = some (.fz (.bl false)) := Eq.trans rfl rfl
@[simp] theorem isi_int_list (i : Int) : isiD "list" (.int i) = some (.fz (.bl false)) := Eq.trans rfl rfl
@[simp] theorem isi_int_dict (i : Int) : isiD "dict" (.int i) = some (.fz (.bl false)) := Eq.trans rfl rfl
@[simp] theorem isi_str_bool (z : Str) : isiD "bool" (.str z) = some (.fz (.bl false)) := Eq.trans rfl rfl
@[simp] theorem isi_str_int (z : Str) : isiD "int" (.str z) = some (.fz (.bl false)) := Eq.trans rfl rfl
@[simp] theorem isi_str_str (z : Str) : isiD "str" (.str z) = some (.fz (.bl true)) := Eq.trans rfl rfl
@[simp] theorem isi_str_tuple (z : Str) : isiD "tuple" (.str z) = some (.fz (.bl false)) := Eq.trans rfl rfl
@[simp] theorem isi_str_list (z : Str) : isiD "list" (.str z) = some (.fz (.bl false)) := Eq.trans rfl rfl
@[simp] theorem isi_str_dict (z : Str) : isiD "dict" (.str z) = some (.fz (.bl false)) := Eq.trans rfl rfl
@[simp] theorem isi_tuple_bool (ds : List D) : isiD "bool" (.tup ds) = some (.fz (.bl false)) := Eq.trans rfl rfl
@[simp] theorem isi_tuple_int (ds : List D) : isiD "int" (.tup ds) = some (.fz (.bl false)) := Eq.trans rfl rfl
@[simp] theorem isi_tuple_str (ds : List D) : isiD "str" (.tup ds) = some (.fz (.bl false)) := Eq.trans rfl rfl
@[simp] theorem isi_tuple_tuple (ds : List D) : isiD "tuple" (.tup ds) = some (.fz (.bl true)) := Eq.trans rfl rfl
@[simp] theorem isi_tuple_list (ds : List D) : isiD "list" (.tup ds) = some (.fz (.bl false)) := Eq.trans rfl rfl
@[simp] theorem isi_tuple_dict (ds : List D) : isiD "dict" (.tup ds) = some (.fz (.bl false)) := Eq.trans rfl rfl
@[simp] theorem isi_list_bool (ds : List D) : isiD "bool" (.lst ds) = some (.fz (.bl false)) := Eq.trans rfl rfl
@[simp] theorem isi_list_int (ds : List D) : isiD "int" (.lst ds) = some (.fz (.bl false)) := Eq.trans rfl rfl
@[simp] theorem isi_list_str (ds : List D) : isiD "str" (.lst ds) = some (.fz (.bl false)) := Eq.trans rfl rfl
@[simp] theorem isi_list_tuple (ds : List D) : isiD "tuple" (.lst ds) = some (.fz (.bl false)) := Eq.trans rfl rfl
@[simp] theorem isi_list_list (ds : List D) : isiD "list" (.lst ds) = some (.fz (.bl true)) := Eq.trans rfl rfl
@[simp] theorem isi_list_dict (ds : List D) : isiD "dict" (.lst ds) = some (.fz (.bl false)) := Eq.trans rfl rfl
@[simp] theorem sPar_ap {i j : Nat} {m : Sm (List D)} {e : PV.Env} : sPar i j m e = (m e).bind fun ds e1 => match ds with
  | [d1, d2] => if i < e1.length ∧ j < e1.length then .ok .nx ((e1.set i (.o (.fz d1))).set j (.o (.fz d2))) else .stuck
  | _ => .stuck := Eq.trans rfl rfl
@[simp] theorem sApp_ap {i : Nat} {m : Sm O} {e : PV.Env} : sApp i m e = match e[i]? with
  | some (.o (.lst _)) => (m e).bind fun o e1 => match e1[i]? with
    | some (.o (.lst os)) => if os.length < sizeLine then .ok .nx (e1.set i (.o (.lst (os ++ [.fz o.toD])))) else .stuck
    | _ => .stuck
  | _ => .stuck := Eq.trans rfl rfl
@[simp] theorem sItA_ap {m : Sm O} {e : PV.Env} : sItA m e = (m e).bind fun o e1 => match o.toD with
  | .lst ds => .ok (ds, .lst ds) e1
  | .scr ns => .ok (ns.map .int, .scr ns) e1
  | .tup ds => .ok (ds, .tup ds) e1
  | _ => .stuck := Eq.trans rfl rfl
@[simp] theorem sRng1_ap {m : Sm (List D)} {e : PV.Env} : sRng1 m e = (m e).bind fun ds e1 => match ds with
  | [.int j] => if -(2 ^ 62) ≤ j ∧ j < 2 ^ 62 then .ok (rngD 0 j.toNat, .non) e1 else .stuck
  | _ => .stuck := Eq.trans rfl rfl
@[simp] theorem sP1_ap {m : Sm O} {e : PV.Env} : sP1 m e = (m e).bind fun o e1 => match o.toD with
  | .int i => .ok (some i) e1
  | _ => .stuck := Eq.trans rfl rfl
@[simp] theorem sSlL_ap {a : Sm O} {lo hi : Sm (Option Int)} {e : PV.Env} : sSlL a lo hi e = (a e).bind fun o e1 => (lo e1).bind fun l e2 => (hi e2).bind fun h e3 => match slL l h o.toD with
  | some z => .ok z e3
  | none => .stuck := Eq.trans rfl rfl
@[simp] theorem sComp_ap {i : Nat} {it : Sm Its} {t : Sm Bool} {el : Sm O} {e : PV.Env} : sComp i it t el e = (it e).bind fun p e1 => match loopC i t el p.1 [] (e1.set i .un) with
  | .ok acc e2 => .ok (.lst (acc.map .fz)) e2
  | _ => .stuck := Eq.trans rfl rfl
@[simp] theorem sTry_ap {subs : List (Str × Bool)} {i : Nat} {body hdl : Sm Fl} {e : PV.Env} : sTry subs i body hdl e = match body e with
  | .exc x e1 => (match subs.lookup x.c with
    | some true => if i < e1.length then (match hdl ((noEx e1).set i (.ex x)) with
      | .ok f e2 => if i < e2.length then .ok f ((noEx e2).set i .un) else .stuck
      | _ => .stuck) else .stuck
    | some false => .exc x e1
    | none => .stuck)
  | .ok f e1 => .ok f e1
  | .stuck => .stuck := Eq.trans rfl rfl
@[simp] theorem sIsX_ap {i : Nat} {tbl : List (Str × Bool)} {e : PV.Env} : sIsX i tbl e = match e[i]? with
  | some (.ex x) => (match tbl.lookup x.c with
    | some b => .ok (.fz (.bl b)) e
    | none => .stuck)
  | _ => .stuck := Eq.trans rfl rfl
@[simp] theorem sFldX_ap {i : Nat} {f : Str} {cs : List Str} {e : PV.Env} : sFldX i f cs e = match e[i]? with
  | some (.ex x) => if cs.contains x.c then (match (x.ns.zip x.ds).reverse.lookup f with
    | some d => .ok (.fz d) e
    | none => .stuck) else .stuck
  | _ => .stuck := Eq.trans rfl rfl
@[simp] theorem ix_t (ds : List D) (j : Int) : ixV (.o (.fz (.tup ds))) (.int j) = atI ds j := Eq.trans rfl rfl
@[simp] theorem ix_l (ds : List D) (j : Int) : ixV (.o (.fz (.lst ds))) (.int j) = atI ds j := Eq.trans rfl rfl
@[simp] theorem ix_s (ns : List Int) (j : Int) : ixV (.o (.fz (.scr ns))) (.int j) = (atI ns j).map .int := Eq.trans rfl rfl
@[simp] theorem ixO_t (ds : List D) (j : Int) : ixO (.tup ds) (.int j) = (atI ds j).map .fz := Eq.trans rfl rfl
@[simp] theorem ixO_l (ds : List D) (j : Int) : ixO (.lst ds) (.int j) = (atI ds j).map .fz := Eq.trans rfl rfl
theorem at_nat {α : Type} (l : List α) (k : Nat) : atI l (k : Int) = l[k]? := by
  unfold atI ixN
  rw [if_pos (Int.natCast_nonneg k)]
  by_cases h : k < l.length
  · rw [if_pos (by omega)]
    rfl
  · rw [if_neg (by omega), List.getElem?_eq_none (by omega)]
    rfl
@[simp] theorem at0 {α : Type} (l : List α) : atI l 0 = l[0]? := at_nat l 0
@[simp] theorem at1 {α : Type} (l : List α) : atI l 1 = l[1]? := at_nat l 1
@[simp] theorem at_lit {α : Type} (l : List α) (k : Nat) : atI l (no_index (OfNat.ofNat k : Int)) = l[(OfNat.ofNat k : Nat)]? := at_nat l k
@[simp] theorem ix_o (os : List O) (j : Int) : ixV (.o (.lst os)) (.int j) = (match atI os j with
    | some (.fz d) => some d
    | _ => none) := Eq.trans rfl rfl
@[simp] theorem ix_b (ds : List D) (j : Int) : ixV (.bo ds) (.int j) = atI ds j := Eq.trans rfl rfl
@[simp] theorem len_t (ds : List D) : lenV (.o (.fz (.tup ds))) = some ds.length := Eq.trans rfl rfl
@[simp] theorem len_l (ds : List D) : lenV (.o (.fz (.lst ds))) = some ds.length := Eq.trans rfl rfl
@[simp] theorem len_o (ds : List O) : lenV (.o (.lst ds)) = some ds.length := Eq.trans rfl rfl
@[simp] theorem len_s (ns : List Int) : lenV (.o (.fz (.scr ns))) = some ns.length := Eq.trans rfl rfl
@[simp] theorem isB_bl (n a b : Bool) : isB n (.bl a) (.bl b) = some (.fz (.bl (if n then !decide (a = b) else decide (a = b)))) := Eq.trans rfl rfl
/-! ### loops -/
theorem loopF_inv {put : D → PV.Env → Option PV.Env} {body : Sm Fl} (I : Nat → PV.Env → Prop) (ds : List D)
    (h : ∀ k d e, ds[k]? = some d → I k e → ∃ e1 e2, put d e = some e1 ∧ (body e1 = .ok .nx e2 ∨ body e1 = .ok .ct e2) ∧ I (k + 1) e2) : ∀ e, I 0 e → ∃ e', loopF put body ds e = .ok .nx e' ∧ I ds.length e' := by
  induction ds generalizing I with
  | nil => exact fun e he => ⟨e, rfl, he⟩
  | cons d ds ih =>
    intro e he
    obtain ⟨e1, e2, h1, h2, h3⟩ := h 0 d e (by simp) he
    obtain ⟨e', h4, h5⟩ := ih (fun k => I (k + 1)) (fun k d' e' hk hi => h (k + 1) d' e' (by simpa using hk) hi) e2 h3
    refine ⟨e', ?_, h5⟩
    unfold loopF
    rcases h2 with h2 | h2 <;> simp only [h1, h2, h4]
theorem rng_get {lo : Int} {n k : Nat} {d : D} (h : (rngD lo n)[k]? = some d) : k < n ∧ d = .int (lo + k) := by
  unfold rngD at h
  rw [List.getElem?_map] at h
  obtain ⟨j, hj, rfl⟩ := Option.map_eq_some_iff.mp h
  obtain ⟨hl, e⟩ := List.getElem?_eq_some_iff.mp hj
  rw [List.length_range] at hl
  rw [List.getElem_range] at e
  subst e
  exact ⟨hl, rfl⟩
@[simp] theorem rng_len (lo : Int) (n : Nat) : (rngD lo n).length = n := by simp [rngD]
theorem e_rng1 (ms : Sm (List D)) (e e1 : PV.Env) (j : Int) (h : ms e = .ok [.int j] e1) (hj : -(2 ^ 62) ≤ j ∧ j < 2 ^ 62) : sRng1 ms e = .ok (rngD 0 j.toNat, .non) e1 := by
  unfold sRng1
  rw [h]
  show (if -(2 ^ 62) ≤ j ∧ j < 2 ^ 62 then Rs.ok (rngD 0 j.toNat, D.non) e1 else .stuck) = _
  rw [if_pos hj]
end PV

set_option maxHeartbeats 2000000
/-! A law's end: what its def may let out depends on the world. -/
namespace PV
open PySem PySem.Spec PyProof.Rows L2 NdefX
theorem walk_ofP {l : PySem.W.OpenLaw} {n k : Nat} {q : Program} {loose : List Str} {hd : Hd} {XP : (Str → Option Value) → Heap → Prop} {d : DefRec} {m : List D → Rv} (hn : l.most = some n) (hn2 : n ≤ sizeLine) (hdf : d.params.defaults = []) (hr : Room k callerA) (Z : PFile hd l.prog)
    (hm : ∀ ns : List Int, ns.length ≤ n → m [.scr ns] = .ok (.bl true)) (hnm : d.name = "law")
    (F : ∀ {w : World} {K : PySem.W.Frag} {mg : Str → Option Value}, Bun hd K mg → PFile hd l.prog → Has l.prog w K mg k "law" ["script"] (spP K 1 [] m)) :
    PySem.W.WalkO q loose XP hd.hook.says l.row.toRowW d [] (fun f vs => PySem.call f vs) := by
  refine Att.attach_call hn hdf fun w s₀ s₁ mg mb fa o pm cd doc a vs ns G Y ho hdd hcd hmg hobj hints hlen hg => ?_
  obtain ⟨K, KX, c⟩ := Y
  have B : Bun hd K mg := ⟨c, _, KX, G.T.g⟩
  have T := F (w := w) B Z
  obtain ⟨fd, hF, _, hbd⟩ := T.ok
  have ea : fa = He.ga K "law" := by
    have h1 : mg d.name = some (.ref (He.ga K "law")) := by
      rw [hnm]
      exact T.g
    exact Value.ref.inj (Option.some.inj (hmg.symm.trans h1))
  subst ea
  exact law_call KX G.T.g G.T.b G.T.builtins G.T.nolimit hg hobj hints (Nat.le_trans hlen hn2) hr (fun base _ _ => hF base) (fun s u => hbd s [u] rfl) (fun H _ hS => sp_law (hm ns hlen) hS) fun H e s' h => by
    obtain ⟨_, _, _, _, _, _, _, _, _, _, _, _, z⟩ := h
    exact z
end PV


set_option maxHeartbeats 4000000
namespace L05
open PySem PySem.Spec PyProof.Rows L2 NdefX PV
def top (i : Nat) : Stmt := PySem.Challenge.pw_pathsandchances_k05_parts_reckoned_exact.main.body.getD i (.Pass ⟨0, 0, 0, 0⟩)
abbrev s_make_part : Stmt := top 6
abbrev s_add_parts : Stmt := top 7
abbrev s_minus_parts : Stmt := top 8
abbrev s_times_parts : Stmt := top 9
abbrev s_over_parts : Stmt := top 10
abbrev s_less_part : Stmt := top 11
abbrev s__law_row : Stmt := top 13
abbrev s__law_part : Stmt := top 14
abbrev s__law_add : Stmt := top 15
abbrev s__law_times : Stmt := top 16
abbrev s__law_minus : Stmt := top 17
abbrev s__law_less : Stmt := top 18
abbrev s__law_sum : Stmt := top 19
abbrev s__law_is_part : Stmt := top 20
abbrev s__law_number : Stmt := top 21
abbrev s__law_refused : Stmt := top 22
abbrev s__law_stands : Stmt := top 23
abbrev s__law_orders : Stmt := top 24
abbrev s_law : Stmt := top 25
abbrev s_BadPart : Stmt := clsAt (top 3) 0
abbrev d_BadPart : SupD := SupD.of "BadPart" "BadPart.__init__" s_BadPart

def hd : Hd where
  n := 6
  bs := [noB "BadPart" "place",
    excB "BadPart",
    fun K => (He.Fa.free "super").ok K,
    staB,
    isV "gcd" (.builtin "math.gcd"),
    fun K => (He.Fa.glo "make_part").ok K,
    fun K => (He.Fa.glo "add_parts").ok K,
    fun K => (He.Fa.glo "minus_parts").ok K,
    fun K => (He.Fa.glo "times_parts").ok K,
    fun K => (He.Fa.glo "over_parts").ok K,
    fun K => (He.Fa.glo "less_part").ok K,
    fun K => (He.Fa.free "len").ok K,
    fun K => (He.Fa.free "range").ok K,
    fun K => (He.Fa.free "int").ok K,
    fun K => (He.Fa.free "min").ok K,
    fun K => (He.Fa.glo "_law_row").ok K,
    fun K => (He.Fa.free "abs").ok K,
    fun K => (He.Fa.glo "_law_part").ok K,
    fun K => (He.Fa.glo "_law_add").ok K,
    fun K => (He.Fa.glo "_law_times").ok K,
    fun K => (He.Fa.glo "_law_minus").ok K,
    fun K => (He.Fa.glo "_law_less").ok K,
    fun K => (He.Fa.glo "_law_sum").ok K,
    fun K => (He.Fa.free "isinstance").ok K,
    fun K => (He.Fa.free "tuple").ok K,
    fun K => (He.Fa.free "bool").ok K,
    fun K => (He.Fa.glo "_law_is_part").ok K,
    fun K => (He.Fa.glo "_law_number").ok K,
    exmB "BadPart" "Fault" true,
    kitG "BadPart" "BadMark" false,
    fun K => (He.Fa.glo "BadMark").ok K,
    kitG "BadPart" "BadPart" true,
    fun K => (He.Fa.glo "BadPart").ok K,
    kitT "BadPart" "ValueError" true,
    fun K => (He.Fa.free "ValueError").ok K,
    fun K => (He.Fa.glo "Fault").ok K,
    fun K => (He.Fa.glo "_law_refused").ok K,
    fun K => (He.Fa.glo "_law_stands").ok K,
    fun K => (He.Fa.glo "_law_orders").ok K,
    fun K => (He.Fa.glo "law").ok K]
  fn := [dfD "make_part" s_make_part, dfD "add_parts" s_add_parts, dfD "minus_parts" s_minus_parts, dfD "times_parts" s_times_parts, dfD "over_parts" s_over_parts, dfD "less_part" s_less_part, dfD "_law_row" s__law_row, dfD "_law_part" s__law_part, dfD "_law_add" s__law_add, dfD "_law_times" s__law_times, dfD "_law_minus" s__law_minus, dfD "_law_less" s__law_less, dfD "_law_sum" s__law_sum, dfD "_law_is_part" s__law_is_part, dfD "_law_number" s__law_number, dfD "_law_refused" s__law_refused, dfD "_law_stands" s__law_stands, dfD "_law_orders" s__law_orders, dfD "law" s_law]
  sp := [d_BadPart]
  file := "/claim/cut.py"
def b_make_part_1 : Sm Fl := (sSet 1 (sUn negD (sVar 1)))
def b_make_part_2 : Sm Fl := (sRet (sTup (sCons (sBin iFdiv (sVar 0) (sVar 2)) (sCons (sBin iFdiv (sVar 1) (sVar 2)) sNil))))
def b_make_part_3 : Sm Fl := (sSeq (sSet 2 (sBi gcdB (sCons (sVar 0) (sCons (sVar 1) sNil)))) b_make_part_2)
def b_make_part_4 : Sm Fl := (sSeq (sIf (sAsT (sBin iLt (sVar 1) (sC (.int 0)))) (sSeq (sSet 0 (sUn negD (sVar 0))) b_make_part_1) sSkip) b_make_part_3)
def b_make_part : Sm Fl := (sSeq (sIf (sAsT (sBin (eqB false) (sVar 1) (sC (.int 0)))) (sRaise "BadPart" ["place"] (sCons (sC (.int 1)) sNil)) sSkip) b_make_part_4)
def m_make_part : List D → Rv := runF 3 [] b_make_part
def b_add_parts : Sm Fl := (sRet (sCall 2 m_make_part (sCons (sBin pAdd (sBin iMul (sIdxV 0 (sC (.int 0))) (sIdxV 1 (sC (.int 1)))) (sBin iMul (sIdxV 1 (sC (.int 0))) (sIdxV 0 (sC (.int 1))))) (sCons (sBin iMul (sIdxV 0 (sC (.int 1))) (sIdxV 1 (sC (.int 1)))) sNil))))
def m_add_parts : List D → Rv := runF 2 [] b_add_parts
def b_minus_parts : Sm Fl := (sRet (sCall 2 m_make_part (sCons (sBin iSub (sBin iMul (sIdxV 0 (sC (.int 0))) (sIdxV 1 (sC (.int 1)))) (sBin iMul (sIdxV 1 (sC (.int 0))) (sIdxV 0 (sC (.int 1))))) (sCons (sBin iMul (sIdxV 0 (sC (.int 1))) (sIdxV 1 (sC (.int 1)))) sNil))))
def m_minus_parts : List D → Rv := runF 2 [] b_minus_parts
def b_times_parts : Sm Fl := (sRet (sCall 2 m_make_part (sCons (sBin iMul (sIdxV 0 (sC (.int 0))) (sIdxV 1 (sC (.int 0)))) (sCons (sBin iMul (sIdxV 0 (sC (.int 1))) (sIdxV 1 (sC (.int 1)))) sNil))))
def m_times_parts : List D → Rv := runF 2 [] b_times_parts
def b_over_parts : Sm Fl := (sRet (sCall 2 m_make_part (sCons (sBin iMul (sIdxV 0 (sC (.int 0))) (sIdxV 1 (sC (.int 1)))) (sCons (sBin iMul (sIdxV 0 (sC (.int 1))) (sIdxV 1 (sC (.int 0)))) sNil))))
def m_over_parts : List D → Rv := runF 2 [] b_over_parts
def b_less_part : Sm Fl := (sRet (sBin iLt (sBin iMul (sIdxV 0 (sC (.int 0))) (sIdxV 1 (sC (.int 1)))) (sBin iMul (sIdxV 1 (sC (.int 0))) (sIdxV 0 (sC (.int 1))))))
def m_less_part : List D → Rv := runF 2 [] b_less_part
def b__law_row_1 : Sm Fl := (sSet 2 (sBin iFdiv (sVar 2) (sC (.int 997))))
def b__law_row_2 : Sm Fl := (sIf (sAsT (sBin iGt (sVar 2) (sC (.int 0)))) (sSeq (sApp 3 (sBin iMod (sBi intB (sCons (sVar 2) sNil)) (sC (.int 997)))) b__law_row_1) (sApp 3 (sBin iMod (sBi intB (sCons (sBin iFdiv (sVar 4) (sC (.int 11))) sNil)) (sC (.int 997)))))
def b__law_row_3 : Sm Fl := (sSeq (sSet 4 (sBin iMod (sBi intB (sCons (sBin pAdd (sBin pAdd (sBin iMul (sVar 4) (sC (.int 48271))) (sBin iMul (sBin iMod (sBi intB (sCons (sVar 6) sNil)) (sC (.int 1000003))) (sC (.int 69621)))) (sBin iMul (sVar 5) (sC (.int 7907)))) sNil)) (sC (.int 2147483647)))) b__law_row_2)
def b__law_row_4 : Sm Fl := (sSeq (sIf (sAsT (sBin iGt (sLenV 0) (sC (.int 0)))) (sSet 6 (sIdxV 0 (sBin iMod (sBi intB (sCons (sVar 5) sNil)) (sBi minB (sCons (sLenV 0) (sCons (sC (.int 63)) sNil)))))) sSkip) b__law_row_3)
def b__law_row_5 : Sm Fl := (sSeq (sSet 6 (sVar 5)) b__law_row_4)
def b__law_row_6 : Sm Fl := (sRet (sVar 3))
def b__law_row_7 : Sm Fl := (sSeq (sFor (sRng1 (sCons (sVar 1) sNil)) (putV 5) b__law_row_5) b__law_row_6)
def b__law_row_8 : Sm Fl := (sSeq (sSet 4 (sC (.int 12345))) b__law_row_7)
def b__law_row_9 : Sm Fl := (sSeq (sSet 3 (sLst sNil)) b__law_row_8)
def b__law_row_10 : Sm Fl := (sSeq (sIf (sAndT (sAsT (sBin iGt (sLenV 0) (sC (.int 0)))) (sAsT (sBin iGe (sIdxV 0 (sC (.int 0))) (sBin iPow (sC (.int 10)) (sC (.int 18)))))) (sSet 2 (sIdxV 0 (sC (.int 0)))) sSkip) b__law_row_9)
def b__law_row : Sm Fl := (sSeq (sSet 2 (sC (.int 0))) b__law_row_10)
def m__law_row : List D → Rv := runF 7 [] b__law_row
def b__law_part_1 : Sm Fl := (sSet 1 (sUn negD (sVar 1)))
def b__law_part_2 : Sm Fl := (sPar 2 3 (sCons (sVar 3) (sCons (sBin iMod (sBi intB (sCons (sVar 2) sNil)) (sVar 3)) sNil)))
def b__law_part_3 : Sm Fl := (sSeq (sIf (sAsT (sBin (eqB false) (sVar 3) (sC (.int 0)))) sBrk sSkip) b__law_part_2)
def b__law_part_4 : Sm Fl := (sRet (sTup (sCons (sBin iFdiv (sVar 0) (sVar 2)) (sCons (sBin iFdiv (sVar 1) (sVar 2)) sNil))))
def b__law_part_5 : Sm Fl := (sSeq (sFor (sRng1 (sCons (sC (.int 1000000)) sNil)) (putV 4) b__law_part_3) b__law_part_4)
def b__law_part_6 : Sm Fl := (sSeq (sSet 3 (sVar 1)) b__law_part_5)
def b__law_part_7 : Sm Fl := (sSeq (sSet 2 (sBi absB (sCons (sVar 0) sNil))) b__law_part_6)
def b__law_part : Sm Fl := (sSeq (sIf (sAsT (sBin iLt (sVar 1) (sC (.int 0)))) (sSeq (sSet 0 (sUn negD (sVar 0))) b__law_part_1) sSkip) b__law_part_7)
def m__law_part : List D → Rv := runF 5 [] b__law_part
def b__law_add : Sm Fl := (sRet (sCall 2 m__law_part (sCons (sBin pAdd (sBin iMul (sIdxV 0 (sC (.int 0))) (sIdxV 1 (sC (.int 1)))) (sBin iMul (sIdxV 1 (sC (.int 0))) (sIdxV 0 (sC (.int 1))))) (sCons (sBin iMul (sIdxV 0 (sC (.int 1))) (sIdxV 1 (sC (.int 1)))) sNil))))
def m__law_add : List D → Rv := runF 2 [] b__law_add
def b__law_times : Sm Fl := (sRet (sCall 2 m__law_part (sCons (sBin iMul (sIdxV 0 (sC (.int 0))) (sIdxV 1 (sC (.int 0)))) (sCons (sBin iMul (sIdxV 0 (sC (.int 1))) (sIdxV 1 (sC (.int 1)))) sNil))))
def m__law_times : List D → Rv := runF 2 [] b__law_times
def b__law_minus : Sm Fl := (sRet (sCall 2 m__law_part (sCons (sBin iSub (sBin iMul (sIdxV 0 (sC (.int 0))) (sIdxV 1 (sC (.int 1)))) (sBin iMul (sIdxV 1 (sC (.int 0))) (sIdxV 0 (sC (.int 1))))) (sCons (sBin iMul (sIdxV 0 (sC (.int 1))) (sIdxV 1 (sC (.int 1)))) sNil))))
def m__law_minus : List D → Rv := runF 2 [] b__law_minus
def b__law_less : Sm Fl := (sRet (sBin iLt (sBin iMul (sIdxV 0 (sC (.int 0))) (sIdxV 1 (sC (.int 1)))) (sBin iMul (sIdxV 1 (sC (.int 0))) (sIdxV 0 (sC (.int 1))))))
def m__law_less : List D → Rv := runF 2 [] b__law_less
def b__law_sum_1 : Sm Fl := (sSet 1 (sCall 2 m__law_add (sCons (sVar 1) (sCons (sVar 2) sNil))))
def b__law_sum_2 : Sm Fl := (sRet (sVar 1))
def b__law_sum_3 : Sm Fl := (sSeq (sFor (sItA (sVar 0)) (putV 2) b__law_sum_1) b__law_sum_2)
def b__law_sum : Sm Fl := (sSeq (sSet 1 (sTup (sCons (sC (.int 0)) (sCons (sC (.int 1)) sNil)))) b__law_sum_3)
def m__law_sum : List D → Rv := runF 3 [] b__law_sum
def b__law_is_part_1 : Sm Fl := (sIf (sOrT (sNotT (sTru (sUn (isiD "int") (sVar 1)))) (sTru (sUn (isiD "bool") (sVar 1)))) (sRet (sC (.bl false))) sSkip)
def b__law_is_part_2 : Sm Fl := (sRet (sAnd (sBin iGt (sIdxV 0 (sC (.int 1))) (sC (.int 0))) (sBin (eqB false) (sCall 2 m__law_part (sCons (sIdxV 0 (sC (.int 0))) (sCons (sIdxV 0 (sC (.int 1))) sNil))) (sVar 0))))
def b__law_is_part_3 : Sm Fl := (sSeq (sFor (sItA (sVar 0)) (putV 1) b__law_is_part_1) b__law_is_part_2)
def b__law_is_part : Sm Fl := (sSeq (sIf (sOrT (sNotT (sTru (sUn (isiD "tuple") (sVar 0)))) (sAsT (sBin (eqB true) (sLenV 0) (sC (.int 2))))) (sRet (sC (.bl false))) sSkip) b__law_is_part_3)
def m__law_is_part : List D → Rv := runF 2 [] b__law_is_part
def b__law_number_1 : Sm Fl := (sSet 3 (sBin pAdd (sBin iMul (sVar 3) (sC (.int 997))) (sIdxV 0 (sBin iMod (sBi intB (sCons (sBin pAdd (sBin pAdd (sVar 1) (sC (.int 1))) (sVar 4)) sNil)) (sLenV 0)))))
def b__law_number_2 : Sm Fl := (sRet (sVar 3))
def b__law_number_3 : Sm Fl := (sSeq (sIf (sAsT (sBin (eqB false) (sBin iMod (sBi intB (sCons (sBin iFdiv (sIdxV 0 (sVar 1)) (sC (.int 6))) sNil)) (sC (.int 2))) (sC (.int 0)))) (sRet (sUn negD (sVar 3))) sSkip) b__law_number_2)
def b__law_number_4 : Sm Fl := (sSeq (sIf (sAsT (sBin (eqB false) (sBin iMod (sBi intB (sCons (sIdxV 0 (sVar 1)) sNil)) (sC (.int 7))) (sC (.int 0)))) (sSet 3 (sC (.int 0))) sSkip) b__law_number_3)
def b__law_number_5 : Sm Fl := (sSeq (sFor (sRng1 (sCons (sVar 2) sNil)) (putV 4) b__law_number_1) b__law_number_4)
def b__law_number_6 : Sm Fl := (sSeq (sSet 3 (sC (.int 0))) b__law_number_5)
def b__law_number : Sm Fl := (sSeq (sSet 2 (sBin ixO (sLst (sCons (sC (.int 1)) (sCons (sC (.int 1)) (sCons (sC (.int 2)) (sCons (sC (.int 3)) (sCons (sC (.int 8)) (sCons (sC (.int 20)) sNil))))))) (sBin iMod (sBi intB (sCons (sIdxV 0 (sVar 1)) sNil)) (sC (.int 6))))) b__law_number_6)
def m__law_number : List D → Rv := runF 5 [] b__law_number
def b__law_refused_1 : Sm Fl := (sRet (sAnd (sUn (isiD "int") (sFldX 3 "place" ["BadPart"])) (sAnd (sUn notD (sUn (isiD "bool") (sFldX 3 "place" ["BadPart"]))) (sBin (eqB false) (sFldX 3 "place" ["BadPart"]) (sC (.int 1))))))
def b__law_refused_2 : Sm Fl := (sRet (sC (.bl false)))
def b__law_refused : Sm Fl := (sSeq (sTry [("BadPart", true)] 3 (sIf (sAsT (sBin (eqB false) (sVar 0) (sC (.int 0)))) (sEx (sCall 2 m_make_part (sCons (sVar 1) (sCons (sVar 2) sNil)))) (sEx (sCall 2 m_over_parts (sCons (sTup (sCons (sC (.int 3)) (sCons (sC (.int 2)) sNil))) (sCons (sTup (sCons (sVar 1) (sCons (sVar 2) sNil))) sNil))))) (sSeq (sIf (sOrT (sTru (sIsX 3 [("BadPart", false)])) (sOrT (sNotT (sTru (sIsX 3 [("BadPart", true)]))) (sNotT (sTru (sIsX 3 [("BadPart", true)]))))) (sRet (sC (.bl false))) sSkip) b__law_refused_1)) b__law_refused_2)
def m__law_refused : List D → Rv := runF 4 [] b__law_refused
def b__law_stands : Sm Fl := (sRet (sAnd (sCall 1 m__law_is_part (sCons (sVar 0) sNil)) (sBin (eqB false) (sVar 0) (sCall 2 m__law_part (sCons (sVar 1) (sCons (sVar 2) sNil))))))
def m__law_stands : List D → Rv := runF 3 [] b__law_stands
def b__law_orders_1 : Sm Fl := (sRet (sAnd (sBin (eqB false) (sVar 2) (sBin iLt (sVar 4) (sC (.int 0)))) (sBin (eqB false) (sVar 3) (sBin iGt (sVar 4) (sC (.int 0))))))
def b__law_orders_2 : Sm Fl := (sSeq (sSet 4 (sBin iSub (sBin iMul (sIdxV 0 (sC (.int 0))) (sIdxV 1 (sC (.int 1)))) (sBin iMul (sIdxV 1 (sC (.int 0))) (sIdxV 0 (sC (.int 1)))))) b__law_orders_1)
def b__law_orders_3 : Sm Fl := (sSeq (sIf (sOrT (sNotT (sTru (sUn (isiD "bool") (sVar 2)))) (sNotT (sTru (sUn (isiD "bool") (sVar 3))))) (sRet (sC (.bl false))) sSkip) b__law_orders_2)
def b__law_orders_4 : Sm Fl := (sSeq (sSet 3 (sCall 2 m_less_part (sCons (sVar 1) (sCons (sVar 0) sNil)))) b__law_orders_3)
def b__law_orders : Sm Fl := (sSeq (sSet 2 (sCall 2 m_less_part (sCons (sVar 0) (sCons (sVar 1) sNil)))) b__law_orders_4)
def m__law_orders : List D → Rv := runF 5 [] b__law_orders
def b_law_1 : Sm Fl := (sIf (sOrT (sNotT (sTru (sCall 3 m__law_refused (sCons (sC (.int 0)) (sCons (sIdxV 2 (sVar 3)) (sCons (sC (.int 0)) sNil)))))) (sNotT (sTru (sCall 3 m__law_refused (sCons (sC (.int 1)) (sCons (sC (.int 0)) (sCons (sBin pAdd (sC (.int 1)) (sBi absB (sCons (sIdxV 2 (sVar 3)) sNil))) sNil))))))) (sRet (sC (.bl false))) sSkip)
def b_law_2 : Sm Fl := (sIf (sNotT (sTru (sCall 3 m__law_stands (sCons (sCall 2 m_make_part (sCons (sIdxV 5 (sVar 3)) (sCons (sIdxV 4 (sVar 3)) sNil))) (sCons (sIdxV 5 (sVar 3)) (sCons (sIdxV 4 (sVar 3)) sNil)))))) (sRet (sC (.bl false))) sSkip)
def b_law_3 : Sm Fl := (sRet (sAnd (sCall 2 m__law_orders (sCons (sVar 7) (sCons (sVar 8) sNil))) (sAnd (sCall 2 m__law_orders (sCons (sVar 8) (sCons (sTup (sCons (sBin pAdd (sIdxV 8 (sC (.int 0))) (sC (.int 1))) (sCons (sIdxV 8 (sC (.int 1))) sNil))) sNil))) (sCall 2 m__law_orders (sCons (sVar 7) (sCons (sTup (sCons (sUn negD (sIdxV 7 (sC (.int 0)))) (sCons (sIdxV 7 (sC (.int 1))) sNil))) sNil))))))
def b_law_4 : Sm Fl := (sSeq (sIf (sOrT (sAsT (sBin (isB true) (sCall 2 m_less_part (sCons (sVar 7) (sCons (sVar 9) sNil))) (sC (.bl false)))) (sAsT (sBin (isB true) (sCall 2 m_less_part (sCons (sVar 9) (sCons (sVar 7) sNil))) (sC (.bl false))))) (sRet (sC (.bl false))) sSkip) b_law_3)
def b_law_5 : Sm Fl := (sSeq (sSet 9 (sCall 2 m__law_part (sCons (sIdxV 7 (sC (.int 0))) (sCons (sIdxV 7 (sC (.int 1))) sNil)))) b_law_4)
def b_law_6 : Sm Fl := (sSeq (sIf (sAndT (sAsT (sBin (eqB false) (sIdxV 8 (sC (.int 0))) (sC (.int 0)))) (sNotT (sTru (sCall 3 m__law_refused (sCons (sC (.int 1)) (sCons (sIdxV 8 (sC (.int 0))) (sCons (sIdxV 8 (sC (.int 1))) sNil))))))) (sRet (sC (.bl false))) sSkip) b_law_5)
def b_law_7 : Sm Fl := (sSeq (sIf (sAndT (sAsT (sBin (eqB true) (sIdxV 8 (sC (.int 0))) (sC (.int 0)))) (sNotT (sTru (sCall 3 m__law_stands (sCons (sCall 2 m_over_parts (sCons (sVar 7) (sCons (sVar 8) sNil))) (sCons (sBin iMul (sIdxV 7 (sC (.int 0))) (sIdxV 8 (sC (.int 1)))) (sCons (sBin iMul (sIdxV 7 (sC (.int 1))) (sIdxV 8 (sC (.int 0)))) sNil))))))) (sRet (sC (.bl false))) sSkip) b_law_6)
def b_law_8 : Sm Fl := (sSeq (sIf (sNotT (sTru (sCall 3 m__law_stands (sCons (sCall 2 m_times_parts (sCons (sVar 7) (sCons (sVar 8) sNil))) (sCons (sBin iMul (sIdxV 7 (sC (.int 0))) (sIdxV 8 (sC (.int 0)))) (sCons (sBin iMul (sIdxV 7 (sC (.int 1))) (sIdxV 8 (sC (.int 1)))) sNil)))))) (sRet (sC (.bl false))) sSkip) b_law_7)
def b_law_9 : Sm Fl := (sSeq (sIf (sNotT (sTru (sCall 3 m__law_stands (sCons (sCall 2 m_minus_parts (sCons (sVar 7) (sCons (sVar 8) sNil))) (sCons (sBin iSub (sBin iMul (sIdxV 7 (sC (.int 0))) (sIdxV 8 (sC (.int 1)))) (sBin iMul (sIdxV 8 (sC (.int 0))) (sIdxV 7 (sC (.int 1))))) (sCons (sBin iMul (sIdxV 7 (sC (.int 1))) (sIdxV 8 (sC (.int 1)))) sNil)))))) (sRet (sC (.bl false))) sSkip) b_law_8)
def b_law_10 : Sm Fl := (sSeq (sIf (sNotT (sTru (sCall 3 m__law_stands (sCons (sCall 2 m_add_parts (sCons (sVar 7) (sCons (sVar 8) sNil))) (sCons (sBin pAdd (sBin iMul (sIdxV 7 (sC (.int 0))) (sIdxV 8 (sC (.int 1)))) (sBin iMul (sIdxV 8 (sC (.int 0))) (sIdxV 7 (sC (.int 1))))) (sCons (sBin iMul (sIdxV 7 (sC (.int 1))) (sIdxV 8 (sC (.int 1)))) sNil)))))) (sRet (sC (.bl false))) sSkip) b_law_9)
def b_law_11 : Sm Fl := (sSeq (sSet 8 (sTup (sCons (sIdxV 5 (sC (.int 1))) (sCons (sBi absB (sCons (sIdxV 4 (sC (.int 1))) sNil)) sNil)))) b_law_10)
def b_law_12 : Sm Fl := (sSeq (sSet 7 (sTup (sCons (sBin iMul (sVar 6) (sIdxV 5 (sC (.int 0)))) (sCons (sBin iMul (sVar 6) (sBi absB (sCons (sIdxV 4 (sC (.int 0))) sNil))) sNil)))) b_law_11)
def b_law_13 : Sm Fl := (sSeq (sSet 6 (sBin pAdd (sC (.int 1)) (sBin iMod (sBi intB (sCons (sIdxV 1 (sC (.int 89))) sNil)) (sC (.int 9))))) b_law_12)
def b_law_14 : Sm Fl := (sSeq (sFor (sRng1 (sCons (sC (.int 2)) sNil)) (putV 3) b_law_2) b_law_13)
def b_law_15 : Sm Fl := (sSeq (sSet 5 (sSlL (sVar 2) sP0 (sP1 (sC (.int 2))))) b_law_14)
def b_law_16 : Sm Fl := (sSeq (sSet 4 (sComp 3 (sItA (sLst (sCons (sC (.int 2)) (sCons (sC (.int 3)) sNil)))) sYes (sIfE (sAsT (sBin (eqB true) (sIdxV 2 (sVar 3)) (sC (.int 0)))) (sIdxV 2 (sVar 3)) (sBin iSub (sC (.int 1)) (sBin iMul (sC (.int 2)) (sBin iMod (sBi intB (sCons (sIdxV 1 (sC (.int 88))) sNil)) (sC (.int 2)))))))) b_law_15)
def b_law_17 : Sm Fl := (sSeq (sFor (sRng1 (sCons (sC (.int 2)) sNil)) (putV 3) b_law_1) b_law_16)
def b_law_18 : Sm Fl := (sSeq (sSet 2 (sComp 3 (sRng1 (sCons (sC (.int 4)) sNil)) sYes (sCall 2 m__law_number (sCons (sVar 1) (sCons (sBin iMul (sC (.int 22)) (sVar 3)) sNil))))) b_law_17)
def b_law : Sm Fl := (sSeq (sSet 1 (sCall 2 m__law_row (sCons (sVar 0) (sCons (sC (.int 90)) sNil)))) b_law_18)
def m_law : List D → Rv := runF 10 [] b_law
variable {P : Program} {w : World} {K : PySem.W.Frag} {mg : Str → Option Value}
theorem okx_BadPart (B : Bun hd K mg) (Z : PFile hd P) : HasX P w K mg "BadPart" ["self", "place"] ["place"] := by
  obtain ⟨cc, co, fd, G⟩ := B.c.sup 0 (d := d_BadPart) rfl Z.file Z.top
  obtain ⟨eK, eC, eg⟩ := (B.exc 1)
  refine ⟨⟨fd, fun base => exc1_ok (x := "place") (msg := "invalid part") (p0 := ⟨8, 8, 8, 13⟩) (p1 := ⟨8, 8, 8, 15⟩) (p2 := ⟨8, 8, 8, 24⟩) (p3 := ⟨8, 25, 8, 39⟩) (p4 := ⟨8, 8, 8, 40⟩) (p5 := ⟨8, 8, 8, 40⟩) (base := base) (hev := fun env => rfl) G (nscope_by (by kernel_rfl)) ⟨⟨_, rfl, rfl, rfl⟩, rfl, (B.free 2), B.sta 3⟩ eK.T (B.no 0) rfl rfl rfl , G.binds fun _ _ _ us hl => match us, hl with | [_, _], _ => rfl⟩, eK, eC, eg⟩

theorem sc_make_part : FnScope ["top", "bottom", "common"] ["top", "bottom"] (defScope s_make_part) := ⟨rfl, rfl, rfl, by decide +kernel, rfl, by decide +kernel, by decide +kernel⟩
theorem ok_make_part (B : Bun hd K mg) (Z : PFile hd P) : Has P w K mg 3 "make_part" ["top", "bottom"] (spP K 2 [] m_make_part) :=
  has_of (N := ["top", "bottom", "common"]) (m := b_make_part) B rfl (B.def_ 0 (s := s_make_part)) sc_make_part rfl (B.glo 5) (fun _ _ _ _ _ _ us hl => match us, hl with | [_, _], _ => rfl) fun base f cdv A outer s H E c hc hx hr =>
    have hK := hc.symm
    have nd := sc_make_part.nd
    (qss_cons (qs_if (qt_eq hK hr.units (qe_var 1) qe_int) (qss_one (qs_raiseX (okx_BadPart B Z) hK rfl (takes_of rfl rfl rfl rfl) (hr.mono (by decide)) rfl (qa_cons qe_int qa_nil))) qss_nil)
    (qss_cons (qs_if (qt_lt (qe_var 1) qe_int) (qss_cons (qs_set 0 nd (qe_neg (qe_var 0)))
    (qss_one (qs_set 1 nd (qe_neg (qe_var 1))))) qss_nil)
    (qss_cons (qs_set 2 nd (qe_biF cr_gcd bis_gcd rfl (B.val 4) (qa_cons (qe_var 0) (qa_cons (qe_var 1) qa_nil))))
    (qss_one (qs_ret (qe_tup (qa_cons (qe_fdiv (qe_var 0) (qe_var 2)) (qa_cons (qe_fdiv (qe_var 1) (qe_var 2)) qa_nil))))))))
theorem sc_add_parts : FnScope ["one", "two"] ["one", "two"] (defScope s_add_parts) := ⟨rfl, rfl, rfl, by decide +kernel, rfl, by decide +kernel, by decide +kernel⟩
theorem ok_add_parts (B : Bun hd K mg) (Z : PFile hd P) : Has P w K mg 4 "add_parts" ["one", "two"] (spP K 2 [] m_add_parts) :=
  has_of (N := ["one", "two"]) (m := b_add_parts) B rfl (B.def_ 1 (s := s_add_parts)) sc_add_parts rfl (B.glo 6) (fun _ _ _ _ _ _ us hl => match us, hl with | [_, _], _ => rfl) fun base f cdv A outer s H E c hc hx hr =>
    have hK := hc.symm
    have nd := sc_add_parts.nd
    (qss_one (qs_ret (qe_callF (ok_make_part B Z) hK (hr.mono (by decide)) (takes_of rfl rfl rfl rfl) rfl (qa_cons (qe_add (qe_mul (qe_idxV 0 hK (pvV 0) qe_int) (qe_idxV 1 hK (pvV 1) qe_int)) (qe_mul (qe_idxV 1 hK (pvV 1) qe_int) (qe_idxV 0 hK (pvV 0) qe_int))) (qa_cons (qe_mul (qe_idxV 0 hK (pvV 0) qe_int) (qe_idxV 1 hK (pvV 1) qe_int)) qa_nil)))))
theorem sc_minus_parts : FnScope ["one", "two"] ["one", "two"] (defScope s_minus_parts) := ⟨rfl, rfl, rfl, by decide +kernel, rfl, by decide +kernel, by decide +kernel⟩
theorem ok_minus_parts (B : Bun hd K mg) (Z : PFile hd P) : Has P w K mg 4 "minus_parts" ["one", "two"] (spP K 2 [] m_minus_parts) :=
  has_of (N := ["one", "two"]) (m := b_minus_parts) B rfl (B.def_ 2 (s := s_minus_parts)) sc_minus_parts rfl (B.glo 7) (fun _ _ _ _ _ _ us hl => match us, hl with | [_, _], _ => rfl) fun base f cdv A outer s H E c hc hx hr =>
    have hK := hc.symm
    have nd := sc_minus_parts.nd
    (qss_one (qs_ret (qe_callF (ok_make_part B Z) hK (hr.mono (by decide)) (takes_of rfl rfl rfl rfl) rfl (qa_cons (qe_sub (qe_mul (qe_idxV 0 hK (pvV 0) qe_int) (qe_idxV 1 hK (pvV 1) qe_int)) (qe_mul (qe_idxV 1 hK (pvV 1) qe_int) (qe_idxV 0 hK (pvV 0) qe_int))) (qa_cons (qe_mul (qe_idxV 0 hK (pvV 0) qe_int) (qe_idxV 1 hK (pvV 1) qe_int)) qa_nil)))))
theorem sc_times_parts : FnScope ["one", "two"] ["one", "two"] (defScope s_times_parts) := ⟨rfl, rfl, rfl, by decide +kernel, rfl, by decide +kernel, by decide +kernel⟩
theorem ok_times_parts (B : Bun hd K mg) (Z : PFile hd P) : Has P w K mg 4 "times_parts" ["one", "two"] (spP K 2 [] m_times_parts) :=
  has_of (N := ["one", "two"]) (m := b_times_parts) B rfl (B.def_ 3 (s := s_times_parts)) sc_times_parts rfl (B.glo 8) (fun _ _ _ _ _ _ us hl => match us, hl with | [_, _], _ => rfl) fun base f cdv A outer s H E c hc hx hr =>
    have hK := hc.symm
    have nd := sc_times_parts.nd
    (qss_one (qs_ret (qe_callF (ok_make_part B Z) hK (hr.mono (by decide)) (takes_of rfl rfl rfl rfl) rfl (qa_cons (qe_mul (qe_idxV 0 hK (pvV 0) qe_int) (qe_idxV 1 hK (pvV 1) qe_int)) (qa_cons (qe_mul (qe_idxV 0 hK (pvV 0) qe_int) (qe_idxV 1 hK (pvV 1) qe_int)) qa_nil)))))
theorem sc_over_parts : FnScope ["one", "two"] ["one", "two"] (defScope s_over_parts) := ⟨rfl, rfl, rfl, by decide +kernel, rfl, by decide +kernel, by decide +kernel⟩
theorem ok_over_parts (B : Bun hd K mg) (Z : PFile hd P) : Has P w K mg 4 "over_parts" ["one", "two"] (spP K 2 [] m_over_parts) :=
  has_of (N := ["one", "two"]) (m := b_over_parts) B rfl (B.def_ 4 (s := s_over_parts)) sc_over_parts rfl (B.glo 9) (fun _ _ _ _ _ _ us hl => match us, hl with | [_, _], _ => rfl) fun base f cdv A outer s H E c hc hx hr =>
    have hK := hc.symm
    have nd := sc_over_parts.nd
    (qss_one (qs_ret (qe_callF (ok_make_part B Z) hK (hr.mono (by decide)) (takes_of rfl rfl rfl rfl) rfl (qa_cons (qe_mul (qe_idxV 0 hK (pvV 0) qe_int) (qe_idxV 1 hK (pvV 1) qe_int)) (qa_cons (qe_mul (qe_idxV 0 hK (pvV 0) qe_int) (qe_idxV 1 hK (pvV 1) qe_int)) qa_nil)))))
theorem sc_less_part : FnScope ["one", "two"] ["one", "two"] (defScope s_less_part) := ⟨rfl, rfl, rfl, by decide +kernel, rfl, by decide +kernel, by decide +kernel⟩
theorem ok_less_part (B : Bun hd K mg) (Z : PFile hd P) : Has P w K mg 1 "less_part" ["one", "two"] (spP K 2 [] m_less_part) :=
  has_of (N := ["one", "two"]) (m := b_less_part) B rfl (B.def_ 5 (s := s_less_part)) sc_less_part rfl (B.glo 10) (fun _ _ _ _ _ _ us hl => match us, hl with | [_, _], _ => rfl) fun base f cdv A outer s H E c hc hx hr =>
    have hK := hc.symm
    have nd := sc_less_part.nd
    (qss_one (qs_ret (qe_lt (qe_mul (qe_idxV 0 hK (pvV 0) qe_int) (qe_idxV 1 hK (pvV 1) qe_int)) (qe_mul (qe_idxV 1 hK (pvV 1) qe_int) (qe_idxV 0 hK (pvV 0) qe_int)))))
theorem sc__law_row : FnScope ["script", "many", "rest", "row", "mixed", "k", "cell"] ["script", "many"] (defScope s__law_row) := ⟨rfl, rfl, rfl, by decide +kernel, rfl, by decide +kernel, by decide +kernel⟩
theorem ok__law_row (B : Bun hd K mg) (Z : PFile hd P) : Has P w K mg 1 "_law_row" ["script", "many"] (spP K 2 [] m__law_row) :=
  has_of (N := ["script", "many", "rest", "row", "mixed", "k", "cell"]) (m := b__law_row) B rfl (B.def_ 6 (s := s__law_row)) sc__law_row rfl (B.glo 15) (fun _ _ _ _ _ _ us hl => match us, hl with | [_, _], _ => rfl) fun base f cdv A outer s H E c hc hx hr =>
    have hK := hc.symm
    have nd := sc__law_row.nd
    (qss_cons (qs_set 2 nd qe_int)
    (qss_cons (qs_if (PW.pt (qw_and (qt_gt (qe_lenV 0 hK (pvV 0) rfl (B.free 11) bt_len) qe_int) (qw_and1 (qt_ge (qe_idxV 0 hK (pvV 0) qe_int) (qe_pow qe_int qe_int))))) (qss_one (qs_set 2 nd (qe_idxV 0 hK (pvV 0) qe_int))) qss_nil)
    (qss_cons (qs_set 3 nd (qe_lst qa_nil))
    (qss_cons (qs_set 4 nd qe_int)
    (qss_cons (qs_for (passes_of rfl) rfl (qi_range1 rfl (B.free 12) (qa_cons (qe_var 1) qa_nil)) (pg_name nd rfl (.inl rfl)) (putV_ok 5) (qss_cons (qs_set 6 nd (qe_var 5))
    (qss_cons (qs_if (qt_gt (qe_lenV 0 hK (pvV 0) rfl (B.free 11) bt_len) qe_int) (qss_one (qs_set 6 nd (qe_idxV 0 hK (pvV 0) (qe_mod (qe_biT call_int1 bis_int rfl (B.free 13) bt_int (qa_cons (qe_var 5) qa_nil)) (qe_bi (call_min2 rfl) bis_min rfl (B.free 14) bt_min (qa_cons (qe_lenV 0 hK (pvV 0) rfl (B.free 11) bt_len) (qa_cons qe_int qa_nil))))))) qss_nil)
    (qss_cons (qs_set 4 nd (qe_mod (qe_biT call_int1 bis_int rfl (B.free 13) bt_int (qa_cons (qe_add (qe_add (qe_mul (qe_var 4) qe_int) (qe_mul (qe_mod (qe_biT call_int1 bis_int rfl (B.free 13) bt_int (qa_cons (qe_var 6) qa_nil)) qe_int) qe_int)) (qe_mul (qe_var 5) qe_int)) qa_nil)) qe_int))
    (qss_one (qs_if (qt_gt (qe_var 2) qe_int) (qss_cons (qs_app 3 (pvV 3) (qe_mod (qe_biT call_int1 bis_int rfl (B.free 13) bt_int (qa_cons (qe_var 2) qa_nil)) qe_int))
    (qss_one (qs_set 2 nd (qe_fdiv (qe_var 2) qe_int)))) (qss_one (qs_app 3 (pvV 3) (qe_mod (qe_biT call_int1 bis_int rfl (B.free 13) bt_int (qa_cons (qe_fdiv (qe_var 4) qe_int) qa_nil)) qe_int)))))))))
    (qss_one (qs_ret (qe_var 3))))))))
theorem sc__law_part : FnScope ["top", "bottom", "one", "two", "k"] ["top", "bottom"] (defScope s__law_part) := ⟨rfl, rfl, rfl, by decide +kernel, rfl, by decide +kernel, by decide +kernel⟩
theorem ok__law_part (B : Bun hd K mg) (Z : PFile hd P) : Has P w K mg 1 "_law_part" ["top", "bottom"] (spP K 2 [] m__law_part) :=
  has_of (N := ["top", "bottom", "one", "two", "k"]) (m := b__law_part) B rfl (B.def_ 7 (s := s__law_part)) sc__law_part rfl (B.glo 17) (fun _ _ _ _ _ _ us hl => match us, hl with | [_, _], _ => rfl) fun base f cdv A outer s H E c hc hx hr =>
    have hK := hc.symm
    have nd := sc__law_part.nd
    (qss_cons (qs_if (qt_lt (qe_var 1) qe_int) (qss_cons (qs_set 0 nd (qe_neg (qe_var 0)))
    (qss_one (qs_set 1 nd (qe_neg (qe_var 1))))) qss_nil)
    (qss_cons (qs_set 2 nd (qe_bi call_abs bis_abs rfl (B.free 16) bt_abs (qa_cons (qe_var 0) qa_nil)))
    (qss_cons (qs_set 3 nd (qe_var 1))
    (qss_cons (qs_for (passes_of rfl) rfl (qi_range1 rfl (B.free 12) (qa_cons qe_int qa_nil)) (pg_name nd rfl (.inl rfl)) (putV_ok 4) (qss_cons (qs_if (qt_eq hK hr.units (qe_var 3) qe_int) (qss_one qs_break) qss_nil)
    (qss_one (qs_par 2 3 rfl nd (qa_cons (qe_var 3) (qa_cons (qe_mod (qe_biT call_int1 bis_int rfl (B.free 13) bt_int (qa_cons (qe_var 2) qa_nil)) (qe_var 3)) qa_nil)) rfl))))
    (qss_one (qs_ret (qe_tup (qa_cons (qe_fdiv (qe_var 0) (qe_var 2)) (qa_cons (qe_fdiv (qe_var 1) (qe_var 2)) qa_nil)))))))))
theorem sc__law_add : FnScope ["one", "two"] ["one", "two"] (defScope s__law_add) := ⟨rfl, rfl, rfl, by decide +kernel, rfl, by decide +kernel, by decide +kernel⟩
theorem ok__law_add (B : Bun hd K mg) (Z : PFile hd P) : Has P w K mg 2 "_law_add" ["one", "two"] (spP K 2 [] m__law_add) :=
  has_of (N := ["one", "two"]) (m := b__law_add) B rfl (B.def_ 8 (s := s__law_add)) sc__law_add rfl (B.glo 18) (fun _ _ _ _ _ _ us hl => match us, hl with | [_, _], _ => rfl) fun base f cdv A outer s H E c hc hx hr =>
    have hK := hc.symm
    have nd := sc__law_add.nd
    (qss_one (qs_ret (qe_callF (ok__law_part B Z) hK (hr.mono (by decide)) (takes_of rfl rfl rfl rfl) rfl (qa_cons (qe_add (qe_mul (qe_idxV 0 hK (pvV 0) qe_int) (qe_idxV 1 hK (pvV 1) qe_int)) (qe_mul (qe_idxV 1 hK (pvV 1) qe_int) (qe_idxV 0 hK (pvV 0) qe_int))) (qa_cons (qe_mul (qe_idxV 0 hK (pvV 0) qe_int) (qe_idxV 1 hK (pvV 1) qe_int)) qa_nil)))))
theorem sc__law_times : FnScope ["one", "two"] ["one", "two"] (defScope s__law_times) := ⟨rfl, rfl, rfl, by decide +kernel, rfl, by decide +kernel, by decide +kernel⟩
theorem ok__law_times (B : Bun hd K mg) (Z : PFile hd P) : Has P w K mg 2 "_law_times" ["one", "two"] (spP K 2 [] m__law_times) :=
  has_of (N := ["one", "two"]) (m := b__law_times) B rfl (B.def_ 9 (s := s__law_times)) sc__law_times rfl (B.glo 19) (fun _ _ _ _ _ _ us hl => match us, hl with | [_, _], _ => rfl) fun base f cdv A outer s H E c hc hx hr =>
    have hK := hc.symm
    have nd := sc__law_times.nd
    (qss_one (qs_ret (qe_callF (ok__law_part B Z) hK (hr.mono (by decide)) (takes_of rfl rfl rfl rfl) rfl (qa_cons (qe_mul (qe_idxV 0 hK (pvV 0) qe_int) (qe_idxV 1 hK (pvV 1) qe_int)) (qa_cons (qe_mul (qe_idxV 0 hK (pvV 0) qe_int) (qe_idxV 1 hK (pvV 1) qe_int)) qa_nil)))))
theorem sc__law_minus : FnScope ["one", "two"] ["one", "two"] (defScope s__law_minus) := ⟨rfl, rfl, rfl, by decide +kernel, rfl, by decide +kernel, by decide +kernel⟩
theorem ok__law_minus (B : Bun hd K mg) (Z : PFile hd P) : Has P w K mg 2 "_law_minus" ["one", "two"] (spP K 2 [] m__law_minus) :=
  has_of (N := ["one", "two"]) (m := b__law_minus) B rfl (B.def_ 10 (s := s__law_minus)) sc__law_minus rfl (B.glo 20) (fun _ _ _ _ _ _ us hl => match us, hl with | [_, _], _ => rfl) fun base f cdv A outer s H E c hc hx hr =>
    have hK := hc.symm
    have nd := sc__law_minus.nd
    (qss_one (qs_ret (qe_callF (ok__law_part B Z) hK (hr.mono (by decide)) (takes_of rfl rfl rfl rfl) rfl (qa_cons (qe_sub (qe_mul (qe_idxV 0 hK (pvV 0) qe_int) (qe_idxV 1 hK (pvV 1) qe_int)) (qe_mul (qe_idxV 1 hK (pvV 1) qe_int) (qe_idxV 0 hK (pvV 0) qe_int))) (qa_cons (qe_mul (qe_idxV 0 hK (pvV 0) qe_int) (qe_idxV 1 hK (pvV 1) qe_int)) qa_nil)))))
theorem sc__law_less : FnScope ["one", "two"] ["one", "two"] (defScope s__law_less) := ⟨rfl, rfl, rfl, by decide +kernel, rfl, by decide +kernel, by decide +kernel⟩
theorem ok__law_less (B : Bun hd K mg) (Z : PFile hd P) : Has P w K mg 1 "_law_less" ["one", "two"] (spP K 2 [] m__law_less) :=
  has_of (N := ["one", "two"]) (m := b__law_less) B rfl (B.def_ 11 (s := s__law_less)) sc__law_less rfl (B.glo 21) (fun _ _ _ _ _ _ us hl => match us, hl with | [_, _], _ => rfl) fun base f cdv A outer s H E c hc hx hr =>
    have hK := hc.symm
    have nd := sc__law_less.nd
    (qss_one (qs_ret (qe_lt (qe_mul (qe_idxV 0 hK (pvV 0) qe_int) (qe_idxV 1 hK (pvV 1) qe_int)) (qe_mul (qe_idxV 1 hK (pvV 1) qe_int) (qe_idxV 0 hK (pvV 0) qe_int)))))
theorem sc__law_sum : FnScope ["parts", "told", "part"] ["parts"] (defScope s__law_sum) := ⟨rfl, rfl, rfl, by decide +kernel, rfl, by decide +kernel, by decide +kernel⟩
theorem ok__law_sum (B : Bun hd K mg) (Z : PFile hd P) : Has P w K mg 3 "_law_sum" ["parts"] (spP K 1 [] m__law_sum) :=
  has_of (N := ["parts", "told", "part"]) (m := b__law_sum) B rfl (B.def_ 12 (s := s__law_sum)) sc__law_sum rfl (B.glo 22) (fun _ _ _ _ _ _ us hl => match us, hl with | [_], _ => rfl) fun base f cdv A outer s H E c hc hx hr =>
    have hK := hc.symm
    have nd := sc__law_sum.nd
    (qss_cons (qs_set 1 nd (qe_tup (qa_cons qe_int (qa_cons qe_int qa_nil))))
    (qss_cons (qs_for (passes_of rfl) rfl (qi_any hK (qe_var 0)) (pg_name nd rfl (.inl rfl)) (putV_ok 2) (qss_one (qs_set 1 nd (qe_callF (ok__law_add B Z) hK (hr.mono (by decide)) (takes_of rfl rfl rfl rfl) rfl (qa_cons (qe_var 1) (qa_cons (qe_var 2) qa_nil))))))
    (qss_one (qs_ret (qe_var 1)))))
theorem sc__law_is_part : FnScope ["told", "number"] ["told"] (defScope s__law_is_part) := ⟨rfl, rfl, rfl, by decide +kernel, rfl, by decide +kernel, by decide +kernel⟩
theorem ok__law_is_part (B : Bun hd K mg) (Z : PFile hd P) : Has P w K mg 2 "_law_is_part" ["told"] (spP K 1 [] m__law_is_part) :=
  has_of (N := ["told", "number"]) (m := b__law_is_part) B rfl (B.def_ 13 (s := s__law_is_part)) sc__law_is_part rfl (B.glo 26) (fun _ _ _ _ _ _ us hl => match us, hl with | [_], _ => rfl) fun base f cdv A outer s H E c hc hx hr =>
    have hK := hc.symm
    have nd := sc__law_is_part.nd
    (qss_cons (qs_if (PW.pt (qw_or (qt_not (qt_tru hK (qe_isi "tuple" hK (by decide) (qe_var 0) rfl (B.free 23) bt_isinstance rfl (B.free 24) bt_tuple))) (qw_or1 (qt_ne hK hr.units (qe_lenV 0 hK (pvV 0) rfl (B.free 11) bt_len) qe_int)))) (qss_one (qs_ret qe_bl)) qss_nil)
    (qss_cons (qs_for (passes_of rfl) rfl (qi_any hK (qe_var 0)) (pg_name nd rfl (.inl rfl)) (putV_ok 1) (qss_one (qs_if (PW.pt (qw_or (qt_not (qt_tru hK (qe_isi "int" hK (by decide) (qe_var 1) rfl (B.free 23) bt_isinstance rfl (B.free 13) bt_int))) (qw_or1 (qt_tru hK (qe_isi "bool" hK (by decide) (qe_var 1) rfl (B.free 23) bt_isinstance rfl (B.free 25) bt_bool))))) (qss_one (qs_ret qe_bl)) qss_nil)))
    (qss_one (qs_ret (qe_and (qe_gt (qe_idxV 0 hK (pvV 0) qe_int) qe_int) (qe_one (qe_eq hK hr.units (qe_callF (ok__law_part B Z) hK (hr.mono (by decide)) (takes_of rfl rfl rfl rfl) rfl (qa_cons (qe_idxV 0 hK (pvV 0) qe_int) (qa_cons (qe_idxV 0 hK (pvV 0) qe_int) qa_nil))) (qe_var 0))))))))
theorem sc__law_number : FnScope ["row", "at", "many", "told", "k"] ["row", "at"] (defScope s__law_number) := ⟨rfl, rfl, rfl, by decide +kernel, rfl, by decide +kernel, by decide +kernel⟩
theorem ok__law_number (B : Bun hd K mg) (Z : PFile hd P) : Has P w K mg 1 "_law_number" ["row", "at"] (spP K 2 [] m__law_number) :=
  has_of (N := ["row", "at", "many", "told", "k"]) (m := b__law_number) B rfl (B.def_ 14 (s := s__law_number)) sc__law_number rfl (B.glo 27) (fun _ _ _ _ _ _ us hl => match us, hl with | [_, _], _ => rfl) fun base f cdv A outer s H E c hc hx hr =>
    have hK := hc.symm
    have nd := sc__law_number.nd
    (qss_cons (qs_set 2 nd (qe_idx hK (qe_lst (qa_cons qe_int (qa_cons qe_int (qa_cons qe_int (qa_cons qe_int (qa_cons qe_int (qa_cons qe_int qa_nil))))))) (qe_mod (qe_biT call_int1 bis_int rfl (B.free 13) bt_int (qa_cons (qe_idxV 0 hK (pvV 0) (qe_var 1)) qa_nil)) qe_int)))
    (qss_cons (qs_set 3 nd qe_int)
    (qss_cons (qs_for (passes_of rfl) rfl (qi_range1 rfl (B.free 12) (qa_cons (qe_var 2) qa_nil)) (pg_name nd rfl (.inl rfl)) (putV_ok 4) (qss_one (qs_set 3 nd (qe_add (qe_mul (qe_var 3) qe_int) (qe_idxV 0 hK (pvV 0) (qe_mod (qe_biT call_int1 bis_int rfl (B.free 13) bt_int (qa_cons (qe_add (qe_add (qe_var 1) qe_int) (qe_var 4)) qa_nil)) (qe_lenV 0 hK (pvV 0) rfl (B.free 11) bt_len)))))))
    (qss_cons (qs_if (qt_eq hK hr.units (qe_mod (qe_biT call_int1 bis_int rfl (B.free 13) bt_int (qa_cons (qe_idxV 0 hK (pvV 0) (qe_var 1)) qa_nil)) qe_int) qe_int) (qss_one (qs_set 3 nd qe_int)) qss_nil)
    (qss_cons (qs_if (qt_eq hK hr.units (qe_mod (qe_biT call_int1 bis_int rfl (B.free 13) bt_int (qa_cons (qe_fdiv (qe_idxV 0 hK (pvV 0) (qe_var 1)) qe_int) qa_nil)) qe_int) qe_int) (qss_one (qs_ret (qe_neg (qe_var 3)))) qss_nil)
    (qss_one (qs_ret (qe_var 3))))))))
theorem sc__law_refused : FnScope ["way", "top", "bottom", "e"] ["way", "top", "bottom"] (defScope s__law_refused) := ⟨rfl, rfl, rfl, by decide +kernel, rfl, by decide +kernel, by decide +kernel⟩
theorem ok__law_refused (B : Bun hd K mg) (Z : PFile hd P) : Has P w K mg 5 "_law_refused" ["way", "top", "bottom"] (spP K 3 [] m__law_refused) :=
  has_of (N := ["way", "top", "bottom", "e"]) (m := b__law_refused) B rfl (B.def_ 15 (s := s__law_refused)) sc__law_refused rfl (B.glo 36) (fun _ _ _ _ _ _ us hl => match us, hl with | [_, _, _], _ => rfl) fun base f cdv A outer s H E c hc hx hr =>
    have hK := hc.symm
    have nd := sc__law_refused.nd
    (qss_cons (qs_try _ 3 hK hx rfl rfl nd rfl rfl ⟨rfl, by decide, .inl (B.glo 35)⟩ (takes_of rfl rfl rfl rfl) (all_cons (B.exm 28) all_nil) (fun W pn xe tk hp => (qss_one (qs_if (qt_eq hK hr.units (qe_var 0) qe_int) (qss_one (qs_expr (qe_callF (ok_make_part B Z) hK (hr.mono (by decide)) tk rfl (qa_cons (qe_var 1) (qa_cons (qe_var 2) qa_nil))))) (qss_one (qs_expr (qe_callF (ok_over_parts B Z) hK (hr.mono (by decide)) tk rfl (qa_cons (qe_tup (qa_cons qe_int (qa_cons qe_int qa_nil))) (qa_cons (qe_tup (qa_cons (qe_var 1) (qa_cons (qe_var 2) qa_nil))) qa_nil)))))))) (fun a oe cls d pn y hz hf => (qss_cons (qs_if (PW.pt (qw_or (qt_tru hK (qx_isi 3 _ hK rfl (all_cons ⟨(B.exc 1).2.1, B.kitG 29⟩ all_nil) hz hf (fun _ h => relRf h) (pvV 3) (gl_cls rfl (B.glo 30)) rfl (B.free 23) bt_isinstance)) (qw_or (qt_not (qt_tru hK (qx_isi 3 _ hK rfl (all_cons ⟨(B.exc 1).2.1, B.kitG 31⟩ all_nil) hz hf (fun _ h => relRf h) (pvV 3) (gl_cls rfl (B.glo 32)) rfl (B.free 23) bt_isinstance))) (qw_or1 (qt_not (qt_tru hK (qx_isi 3 _ hK rfl (all_cons ⟨(B.exc 1).2.1, B.kitT 33⟩ all_nil) hz hf (fun _ h => relTy h) (pvV 3) (gl_ty rfl (B.free 34) bt_ValueError) rfl (B.free 23) bt_isinstance))))))) (qss_one (qs_ret qe_bl)) qss_nil)
    (qss_one (qs_ret (qe_and (qe_isi "int" hK (by decide) (qx_fld 3 _ hK rfl (all_cons ⟨XfC.of (B.exc 1).2.1, B.no 0⟩ all_nil) hz hf (pvV 3)) rfl (B.free 23) bt_isinstance rfl (B.free 13) bt_int) (qe_and (qe_not (qe_isi "bool" hK (by decide) (qx_fld 3 _ hK rfl (all_cons ⟨XfC.of (B.exc 1).2.1, B.no 0⟩ all_nil) hz hf (pvV 3)) rfl (B.free 23) bt_isinstance rfl (B.free 25) bt_bool)) (qe_one (qe_eq hK hr.units (qx_fld 3 _ hK rfl (all_cons ⟨XfC.of (B.exc 1).2.1, B.no 0⟩ all_nil) hz hf (pvV 3)) qe_int)))))))))
    (qss_one (qs_ret qe_bl)))
theorem sc__law_stands : FnScope ["told", "top", "bottom"] ["told", "top", "bottom"] (defScope s__law_stands) := ⟨rfl, rfl, rfl, by decide +kernel, rfl, by decide +kernel, by decide +kernel⟩
theorem ok__law_stands (B : Bun hd K mg) (Z : PFile hd P) : Has P w K mg 3 "_law_stands" ["told", "top", "bottom"] (spP K 3 [] m__law_stands) :=
  has_of (N := ["told", "top", "bottom"]) (m := b__law_stands) B rfl (B.def_ 16 (s := s__law_stands)) sc__law_stands rfl (B.glo 37) (fun _ _ _ _ _ _ us hl => match us, hl with | [_, _, _], _ => rfl) fun base f cdv A outer s H E c hc hx hr =>
    have hK := hc.symm
    have nd := sc__law_stands.nd
    (qss_one (qs_ret (qe_and (qe_callF (ok__law_is_part B Z) hK (hr.mono (by decide)) (takes_of rfl rfl rfl rfl) rfl (qa_cons (qe_var 0) qa_nil)) (qe_one (qe_eq hK hr.units (qe_var 0) (qe_callF (ok__law_part B Z) hK (hr.mono (by decide)) (takes_of rfl rfl rfl rfl) rfl (qa_cons (qe_var 1) (qa_cons (qe_var 2) qa_nil))))))))
theorem sc__law_orders : FnScope ["one", "two", "first", "second", "gap"] ["one", "two"] (defScope s__law_orders) := ⟨rfl, rfl, rfl, by decide +kernel, rfl, by decide +kernel, by decide +kernel⟩
theorem ok__law_orders (B : Bun hd K mg) (Z : PFile hd P) : Has P w K mg 2 "_law_orders" ["one", "two"] (spP K 2 [] m__law_orders) :=
  has_of (N := ["one", "two", "first", "second", "gap"]) (m := b__law_orders) B rfl (B.def_ 17 (s := s__law_orders)) sc__law_orders rfl (B.glo 38) (fun _ _ _ _ _ _ us hl => match us, hl with | [_, _], _ => rfl) fun base f cdv A outer s H E c hc hx hr =>
    have hK := hc.symm
    have nd := sc__law_orders.nd
    (qss_cons (qs_set 2 nd (qe_callF (ok_less_part B Z) hK (hr.mono (by decide)) (takes_of rfl rfl rfl rfl) rfl (qa_cons (qe_var 0) (qa_cons (qe_var 1) qa_nil))))
    (qss_cons (qs_set 3 nd (qe_callF (ok_less_part B Z) hK (hr.mono (by decide)) (takes_of rfl rfl rfl rfl) rfl (qa_cons (qe_var 1) (qa_cons (qe_var 0) qa_nil))))
    (qss_cons (qs_if (PW.pt (qw_or (qt_not (qt_tru hK (qe_isi "bool" hK (by decide) (qe_var 2) rfl (B.free 23) bt_isinstance rfl (B.free 25) bt_bool))) (qw_or1 (qt_not (qt_tru hK (qe_isi "bool" hK (by decide) (qe_var 3) rfl (B.free 23) bt_isinstance rfl (B.free 25) bt_bool)))))) (qss_one (qs_ret qe_bl)) qss_nil)
    (qss_cons (qs_set 4 nd (qe_sub (qe_mul (qe_idxV 0 hK (pvV 0) qe_int) (qe_idxV 1 hK (pvV 1) qe_int)) (qe_mul (qe_idxV 1 hK (pvV 1) qe_int) (qe_idxV 0 hK (pvV 0) qe_int))))
    (qss_one (qs_ret (qe_and (qe_eq hK hr.units (qe_var 2) (qe_lt (qe_var 4) qe_int)) (qe_one (qe_eq hK hr.units (qe_var 3) (qe_gt (qe_var 4) qe_int))))))))))
theorem sc_law : FnScope ["script", "row", "numbers", "k", "bottoms", "tops", "times", "one", "two", "back"] ["script"] (defScope s_law) := ⟨rfl, rfl, rfl, by decide +kernel, rfl, by decide +kernel, by decide +kernel⟩
theorem ok_law (B : Bun hd K mg) (Z : PFile hd P) : Has P w K mg 6 "law" ["script"] (spP K 1 [] m_law) :=
  has_of (N := ["script", "row", "numbers", "k", "bottoms", "tops", "times", "one", "two", "back"]) (m := b_law) B rfl (B.def_ 18 (s := s_law)) sc_law rfl (B.glo 39) (fun _ _ _ _ _ _ us hl => match us, hl with | [_], _ => rfl) fun base f cdv A outer s H E c hc hx hr =>
    have hK := hc.symm
    have nd := sc_law.nd
    (qss_cons (qs_set 1 nd (qe_callF (ok__law_row B Z) hK (hr.mono (by decide)) (takes_of rfl rfl rfl rfl) rfl (qa_cons (qe_var 0) (qa_cons qe_int qa_nil))))
    (qss_cons (qs_set 2 nd (qe_comp 3 rfl nd (qi_range1 rfl (B.free 12) (qa_cons qe_int qa_nil)) (by kernel_rfl) (fun _ _ _ _ _ => pg_name nd rfl (.inl rfl)) (fun _ _ _ _ _ => qts_nil) (fun _ _ _ _ _ => (qe_callF (ok__law_number B Z) hK (hr.mono (by decide)) takes_f rfl (qa_cons (qe_var 1) (qa_cons (qe_mul qe_int (qe_var 3)) qa_nil))))))
    (qss_cons (qs_for (passes_of rfl) rfl (qi_range1 rfl (B.free 12) (qa_cons qe_int qa_nil)) (pg_name nd rfl (.inl rfl)) (putV_ok 3) (qss_one (qs_if (PW.pt (qw_or (qt_not (qt_tru hK (qe_callF (ok__law_refused B Z) hK (hr.mono (by decide)) (takes_of rfl rfl rfl rfl) rfl (qa_cons qe_int (qa_cons (qe_idxV 2 hK (pvV 2) (qe_var 3)) (qa_cons qe_int qa_nil)))))) (qw_or1 (qt_not (qt_tru hK (qe_callF (ok__law_refused B Z) hK (hr.mono (by decide)) (takes_of rfl rfl rfl rfl) rfl (qa_cons qe_int (qa_cons qe_int (qa_cons (qe_add qe_int (qe_bi call_abs bis_abs rfl (B.free 16) bt_abs (qa_cons (qe_idxV 2 hK (pvV 2) (qe_var 3)) qa_nil))) qa_nil))))))))) (qss_one (qs_ret qe_bl)) qss_nil)))
    (qss_cons (qs_setComp 3 4 rfl nd (qi_any hK (qe_lst (qa_cons qe_int (qa_cons qe_int qa_nil)))) (by kernel_rfl) (fun _ _ _ _ _ => pg_name nd rfl (.inl rfl)) (fun _ _ _ _ _ => qts_nil) (fun _ _ _ _ _ => (qe_ife (qt_ne hK hr.units (qe_idxV 2 hK (pvV 2) (qe_var 3)) qe_int) (qe_idxV 2 hK (pvV 2) (qe_var 3)) (qe_sub qe_int (qe_mul qe_int (qe_mod (qe_biT call_int1 bis_int rfl (B.free 13) bt_int (qa_cons (qe_idxV 1 hK (pvV 1) qe_int) qa_nil)) qe_int))))))
    (qss_cons (qs_set 5 nd (qe_slL hK (qe_var 2) qp_none (qp_some qe_int)))
    (qss_cons (qs_for (passes_of rfl) rfl (qi_range1 rfl (B.free 12) (qa_cons qe_int qa_nil)) (pg_name nd rfl (.inl rfl)) (putV_ok 3) (qss_one (qs_if (qt_not (qt_tru hK (qe_callF (ok__law_stands B Z) hK (hr.mono (by decide)) (takes_of rfl rfl rfl rfl) rfl (qa_cons (qe_callF (ok_make_part B Z) hK (hr.mono (by decide)) (takes_of rfl rfl rfl rfl) rfl (qa_cons (qe_idxV 5 hK (pvV 5) (qe_var 3)) (qa_cons (qe_idxV 4 hK (pvV 4) (qe_var 3)) qa_nil))) (qa_cons (qe_idxV 5 hK (pvV 5) (qe_var 3)) (qa_cons (qe_idxV 4 hK (pvV 4) (qe_var 3)) qa_nil)))))) (qss_one (qs_ret qe_bl)) qss_nil)))
    (qss_cons (qs_set 6 nd (qe_add qe_int (qe_mod (qe_biT call_int1 bis_int rfl (B.free 13) bt_int (qa_cons (qe_idxV 1 hK (pvV 1) qe_int) qa_nil)) qe_int)))
    (qss_cons (qs_set 7 nd (qe_tup (qa_cons (qe_mul (qe_var 6) (qe_idxV 5 hK (pvV 5) qe_int)) (qa_cons (qe_mul (qe_var 6) (qe_bi call_abs bis_abs rfl (B.free 16) bt_abs (qa_cons (qe_idxV 4 hK (pvV 4) qe_int) qa_nil))) qa_nil))))
    (qss_cons (qs_set 8 nd (qe_tup (qa_cons (qe_idxV 5 hK (pvV 5) qe_int) (qa_cons (qe_bi call_abs bis_abs rfl (B.free 16) bt_abs (qa_cons (qe_idxV 4 hK (pvV 4) qe_int) qa_nil)) qa_nil))))
    (qss_cons (qs_if (qt_not (qt_tru hK (qe_callF (ok__law_stands B Z) hK (hr.mono (by decide)) (takes_of rfl rfl rfl rfl) rfl (qa_cons (qe_callF (ok_add_parts B Z) hK (hr.mono (by decide)) (takes_of rfl rfl rfl rfl) rfl (qa_cons (qe_var 7) (qa_cons (qe_var 8) qa_nil))) (qa_cons (qe_add (qe_mul (qe_idxV 7 hK (pvV 7) qe_int) (qe_idxV 8 hK (pvV 8) qe_int)) (qe_mul (qe_idxV 8 hK (pvV 8) qe_int) (qe_idxV 7 hK (pvV 7) qe_int))) (qa_cons (qe_mul (qe_idxV 7 hK (pvV 7) qe_int) (qe_idxV 8 hK (pvV 8) qe_int)) qa_nil)))))) (qss_one (qs_ret qe_bl)) qss_nil)
    (qss_cons (qs_if (qt_not (qt_tru hK (qe_callF (ok__law_stands B Z) hK (hr.mono (by decide)) (takes_of rfl rfl rfl rfl) rfl (qa_cons (qe_callF (ok_minus_parts B Z) hK (hr.mono (by decide)) (takes_of rfl rfl rfl rfl) rfl (qa_cons (qe_var 7) (qa_cons (qe_var 8) qa_nil))) (qa_cons (qe_sub (qe_mul (qe_idxV 7 hK (pvV 7) qe_int) (qe_idxV 8 hK (pvV 8) qe_int)) (qe_mul (qe_idxV 8 hK (pvV 8) qe_int) (qe_idxV 7 hK (pvV 7) qe_int))) (qa_cons (qe_mul (qe_idxV 7 hK (pvV 7) qe_int) (qe_idxV 8 hK (pvV 8) qe_int)) qa_nil)))))) (qss_one (qs_ret qe_bl)) qss_nil)
    (qss_cons (qs_if (qt_not (qt_tru hK (qe_callF (ok__law_stands B Z) hK (hr.mono (by decide)) (takes_of rfl rfl rfl rfl) rfl (qa_cons (qe_callF (ok_times_parts B Z) hK (hr.mono (by decide)) (takes_of rfl rfl rfl rfl) rfl (qa_cons (qe_var 7) (qa_cons (qe_var 8) qa_nil))) (qa_cons (qe_mul (qe_idxV 7 hK (pvV 7) qe_int) (qe_idxV 8 hK (pvV 8) qe_int)) (qa_cons (qe_mul (qe_idxV 7 hK (pvV 7) qe_int) (qe_idxV 8 hK (pvV 8) qe_int)) qa_nil)))))) (qss_one (qs_ret qe_bl)) qss_nil)
    (qss_cons (qs_if (PW.pt (qw_and (qt_ne hK hr.units (qe_idxV 8 hK (pvV 8) qe_int) qe_int) (qw_and1 (qt_not (qt_tru hK (qe_callF (ok__law_stands B Z) hK (hr.mono (by decide)) (takes_of rfl rfl rfl rfl) rfl (qa_cons (qe_callF (ok_over_parts B Z) hK (hr.mono (by decide)) (takes_of rfl rfl rfl rfl) rfl (qa_cons (qe_var 7) (qa_cons (qe_var 8) qa_nil))) (qa_cons (qe_mul (qe_idxV 7 hK (pvV 7) qe_int) (qe_idxV 8 hK (pvV 8) qe_int)) (qa_cons (qe_mul (qe_idxV 7 hK (pvV 7) qe_int) (qe_idxV 8 hK (pvV 8) qe_int)) qa_nil))))))))) (qss_one (qs_ret qe_bl)) qss_nil)
    (qss_cons (qs_if (PW.pt (qw_and (qt_eq hK hr.units (qe_idxV 8 hK (pvV 8) qe_int) qe_int) (qw_and1 (qt_not (qt_tru hK (qe_callF (ok__law_refused B Z) hK (hr.mono (by decide)) (takes_of rfl rfl rfl rfl) rfl (qa_cons qe_int (qa_cons (qe_idxV 8 hK (pvV 8) qe_int) (qa_cons (qe_idxV 8 hK (pvV 8) qe_int) qa_nil))))))))) (qss_one (qs_ret qe_bl)) qss_nil)
    (qss_cons (qs_set 9 nd (qe_callF (ok__law_part B Z) hK (hr.mono (by decide)) (takes_of rfl rfl rfl rfl) rfl (qa_cons (qe_idxV 7 hK (pvV 7) qe_int) (qa_cons (qe_idxV 7 hK (pvV 7) qe_int) qa_nil))))
    (qss_cons (qs_if (PW.pt (qw_or (qt_isnot (qe_callF (ok_less_part B Z) hK (hr.mono (by decide)) (takes_of rfl rfl rfl rfl) rfl (qa_cons (qe_var 7) (qa_cons (qe_var 9) qa_nil))) qe_bl) (qw_or1 (qt_isnot (qe_callF (ok_less_part B Z) hK (hr.mono (by decide)) (takes_of rfl rfl rfl rfl) rfl (qa_cons (qe_var 9) (qa_cons (qe_var 7) qa_nil))) qe_bl)))) (qss_one (qs_ret qe_bl)) qss_nil)
    (qss_one (qs_ret (qe_and (qe_callF (ok__law_orders B Z) hK (hr.mono (by decide)) (takes_of rfl rfl rfl rfl) rfl (qa_cons (qe_var 7) (qa_cons (qe_var 8) qa_nil))) (qe_and (qe_callF (ok__law_orders B Z) hK (hr.mono (by decide)) (takes_of rfl rfl rfl rfl) rfl (qa_cons (qe_var 8) (qa_cons (qe_tup (qa_cons (qe_add (qe_idxV 8 hK (pvV 8) qe_int) qe_int) (qa_cons (qe_idxV 8 hK (pvV 8) qe_int) qa_nil))) qa_nil))) (qe_one (qe_callF (ok__law_orders B Z) hK (hr.mono (by decide)) (takes_of rfl rfl rfl rfl) rfl (qa_cons (qe_var 7) (qa_cons (qe_tup (qa_cons (qe_neg (qe_idxV 7 hK (pvV 7) qe_int)) (qa_cons (qe_idxV 7 hK (pvV 7) qe_int) qa_nil))) qa_nil))))))))))))))))))))))))
end L05

set_option maxHeartbeats 1000000
namespace L05
open PySem PySem.Spec PyProof.Rows L2 NdefX PV
/-! ### the number in lowest terms -/
def gg (t b : Int) : Int := ((Nat.gcd t.natAbs b.natAbs : Nat) : Int)
def pT (t b : Int) : Int := (if b < 0 then -t else t) / gg t b
def pB (t b : Int) : Int := (if b < 0 then -b else b) / gg t b
theorem gg_pos {t b : Int} (h : b ≠ 0) : 0 < gg t b := by
  unfold gg
  have : 0 < Nat.gcd t.natAbs b.natAbs := Nat.gcd_pos_of_pos_right _ (by omega)
  omega
theorem gg_sm {t b : Int} {n : Nat} (h : b ≠ 0) (s : Sm2 n b) : Sm2 n (gg t b) := by
  unfold Sm2 gg at *
  have : Nat.gcd t.natAbs b.natAbs ≤ b.natAbs := Nat.gcd_le_right _ (by omega)
  omega
theorem gg_neg (t b : Int) : gg (-t) (-b) = gg t b := by unfold gg; rw [Int.natAbs_neg, Int.natAbs_neg]
theorem gg_dt (t b : Int) : gg t b ∣ t := by
  unfold gg
  exact Int.ofNat_dvd_left.mpr (Nat.gcd_dvd_left _ _)
theorem gg_db (t b : Int) : gg t b ∣ b := by
  unfold gg
  exact Int.ofNat_dvd_left.mpr (Nat.gcd_dvd_right _ _)
theorem div_of {g x k : Int} (h : x = g * k) (g0 : g ≠ 0) : x / g = k := by
  rw [h]
  exact Int.mul_ediv_cancel_left k g0
theorem pB_pos {t b : Int} (h : b ≠ 0) : 0 < pB t b := by
  unfold pB
  have g := gg_pos (t := t) h
  obtain ⟨k, hk⟩ := gg_db t b
  split
  · rename_i hb
    rw [div_of (k := -k) (by rw [Int.mul_neg, ← hk]) (by omega)]
    have : k < 0 := by
      rcases Int.lt_trichotomy k 0 with z | z | z
      · exact z
      · subst z
        simp at hk
        omega
      · have := Int.mul_pos g z
        omega
    omega
  · rename_i hb
    rw [div_of hk (by omega)]
    rcases Int.lt_trichotomy k 0 with z | z | z
    · have := Int.mul_neg_of_pos_of_neg g z
      omega
    · subst z
      simp at hk
      omega
    · exact z
theorem pB_sm {t b : Int} {n : Nat} (h : b ≠ 0) (s : Sm2 n b) : Sm2 n (pB t b) := by
  have p := pB_pos (t := t) h
  have g := gg_pos (t := t) h
  have e : pB t b * gg t b = (if b < 0 then -b else b) := by
    unfold pB
    refine Int.ediv_mul_cancel ?_
    split
    · exact Int.dvd_neg.mpr (gg_db t b)
    · exact gg_db t b
  have : pB t b ≤ pB t b * gg t b := by
    have := Int.mul_le_mul_of_nonneg_left (show 1 ≤ gg t b by omega) (Int.le_of_lt p)
    omega
  unfold Sm2 at *
  split at e <;> omega
theorem gg_one {t b : Int} (h : b ≠ 0) : gg (pT t b) (pB t b) = 1 := by
  have g := gg_pos (t := t) h
  obtain ⟨k, hk⟩ := gg_dt t b
  obtain ⟨m, hm⟩ := gg_db t b
  have h1 : (pT t b).natAbs = k.natAbs := by
    unfold pT
    split
    · rw [div_of (k := -k) (by rw [Int.mul_neg, ← hk]) (by omega), Int.natAbs_neg]
    · rw [div_of hk (by omega)]
  have h2 : (pB t b).natAbs = m.natAbs := by
    unfold pB
    split
    · rw [div_of (k := -m) (by rw [Int.mul_neg, ← hm]) (by omega), Int.natAbs_neg]
    · rw [div_of hm (by omega)]
  have e : (gg t b).natAbs = Nat.gcd ((gg t b).natAbs * k.natAbs) ((gg t b).natAbs * m.natAbs) := by
    rw [← Int.natAbs_mul, ← Int.natAbs_mul, ← hk, ← hm]
    unfold gg
    rw [Int.natAbs_natCast]
  rw [Nat.gcd_mul_left] at e
  have : Nat.gcd k.natAbs m.natAbs = 1 := by
    have hg : 0 < (gg t b).natAbs := by omega
    exact Nat.eq_of_mul_eq_mul_left hg (by rw [Nat.mul_one]; exact e.symm)
  unfold gg
  rw [h1, h2, this]
  rfl
theorem e_make0 (t : Int) : m_make_part [.int t, .int 0] = .exc ⟨"BadPart", ["place"], [.int 1]⟩ := by
  simp [b_make_part_1, b_make_part_2, b_make_part_3, b_make_part_4, b_make_part, m_make_part, runF, slAll, slOf]
theorem e_make {t b : Int} {n : Nat} (h : b ≠ 0) (s : Sm2 n b) (l : n < 9000) : m_make_part [.int t, .int b] = .ok (.tup [.int (pT t b), .int (pB t b)]) := by
  have hd : ∀ i, divC i (gg t b) = true := fun i => (gg_sm h s).divC l (gg_pos h)
  have hg : (((t.natAbs.gcd b.natAbs) : Nat) : Int) = gg t b := rfl
  by_cases hb : b < 0
  · simp [b_make_part_1, b_make_part_2, b_make_part_3, b_make_part_4, b_make_part, m_make_part, runF, slAll, slOf, h, hb, hg, hd, pT, pB]
  · simp [b_make_part_1, b_make_part_2, b_make_part_3, b_make_part_4, b_make_part, m_make_part, runF, slAll, slOf, h, hb, hg, hd, pT, pB]
/-! ### the law's own divisor -/
theorem eu0 (T B : Sl) (d : D) (ds : List D) (a : Nat) (s : Sl) : loopF (putV 4) b__law_part_3 (d :: ds) [T, B, .o (.fz (.int a)), .o (.fz (.int 0)), s] = .ok .nx [T, B, .o (.fz (.int a)), .o (.fz (.int 0)), .o (.fz d)] := by
  unfold loopF
  simp [putV, b__law_part_3]
theorem eu1 (T B : Sl) (d : D) (ds : List D) (a b : Nat) (s : Sl) (h : b ≠ 0) : loopF (putV 4) b__law_part_3 (d :: ds) [T, B, .o (.fz (.int a)), .o (.fz (.int b)), s] = loopF (putV 4) b__law_part_3 ds [T, B, .o (.fz (.int b)), .o (.fz (.int (a % b : Nat))), .o (.fz d)] := by
  have hb : (0 : Int) < (b : Int) := by omega
  have hb' : ¬ (b : Int) = 0 := by omega
  have h2 : 0 < b := by omega
  rw [loopF]
  simp [putV, b__law_part_3, b__law_part_2, h, h2, hb, hb']
theorem eu (T B : Sl) (n : Nat) : ∀ (ds : List D) (a b : Nat) (s : Sl), b < 2 ^ n → 2 * n + 1 ≤ ds.length → ∃ s', loopF (putV 4) b__law_part_3 ds [T, B, .o (.fz (.int a)), .o (.fz (.int b)), s] = .ok .nx [T, B, .o (.fz (.int (Nat.gcd a b : Nat))), .o (.fz (.int 0)), s'] := by
  induction n with
  | zero =>
    intro ds a b s hb hl
    have : b = 0 := by omega
    subst this
    match ds, hl with
    | d :: ds, _ =>
      refine ⟨.o (.fz d), (eu0 T B d ds a s).trans ?_⟩
      rw [Nat.gcd_zero_right]
  | succ n ih =>
    intro ds a b s hb hl
    match ds, hl with
    | d :: d2 :: ds, hl =>
      by_cases h0 : b = 0
      · subst h0
        refine ⟨.o (.fz d), (eu0 T B d (d2 :: ds) a s).trans ?_⟩
        rw [Nat.gcd_zero_right]
      · rw [eu1 _ _ _ _ _ _ _ h0]
        have g1 : Nat.gcd a b = Nat.gcd b (a % b) := by rw [Nat.gcd_comm a b, Nat.gcd_rec b a, Nat.gcd_comm]
        rw [g1]
        generalize hr : a % b = r
        have hrb : r < b := by rw [← hr]; exact Nat.mod_lt _ (by omega)
        by_cases h1 : r = 0
        · subst h1
          refine ⟨.o (.fz d2), (eu0 T B d2 ds b _).trans ?_⟩
          rw [Nat.gcd_zero_right]
        · rw [eu1 _ _ _ _ _ _ _ h1]
          have g2 : Nat.gcd b r = Nat.gcd r (b % r) := by rw [Nat.gcd_comm b r, Nat.gcd_rec r b, Nat.gcd_comm]
          rw [g2]
          have hm : b % r < 2 ^ n := by
            have q1 := Nat.mod_lt b (show 0 < r by omega)
            have q2 := Nat.div_add_mod b r
            have q3 : 1 ≤ b / r := Nat.div_pos (by omega) (by omega)
            have q4 : r * 1 ≤ r * (b / r) := Nat.mul_le_mul_left r q3
            rw [Nat.pow_succ] at hb
            omega
          exact ih ds r (b % r) _ hm (by simp only [List.length_cons] at hl; omega)
end L05

namespace L05
open PySem PySem.Spec PyProof.Rows L2 NdefX PV
theorem part7 {t b : Int} {n : Nat} (h : 0 < b) (s : Sm2 n b) (l : n < 9000) : ∃ e, b__law_part_7 [.o (.fz (.int t)), .o (.fz (.int b)), .un, .un, .un] = .ok (.rt (.tup [.int (t / gg t b), .int (b / gg t b)])) e := by
  have hd : ∀ i, divC i (gg t b) = true := fun i => (gg_sm (by omega) s).divC l (gg_pos (by omega))
  have ha : (if t < 0 then -t else t) = ((t.natAbs : Nat) : Int) := by split <;> omega
  have hb : (b : Int) = ((b.natAbs : Nat) : Int) := by omega
  obtain ⟨s', hs⟩ := eu (.o (.fz (.int t))) (.o (.fz (.int b))) n (rngD 0 1000000) t.natAbs b.natAbs .un s (by rw [rng_len]; omega)
  rw [← hb] at hs
  have hs2 : loopF (putV 4) b__law_part_3 (rngD 0 1000000) [.o (.fz (.int t)), .o (.fz (.int b)), .o (.fz (.int (t.natAbs : Nat))), .o (.fz (.int b)), .un] = .ok .nx [.o (.fz (.int t)), .o (.fz (.int b)), .o (.fz (.int (gg t b))), .o (.fz (.int 0)), s'] := hs
  simp [b__law_part_7, b__law_part_6, b__law_part_5, b__law_part_4, ha, hs2, hd]
end L05

namespace L05
open PySem PySem.Spec PyProof.Rows L2 NdefX PV
theorem e_part {t b : Int} {n : Nat} (h : b ≠ 0) (s : Sm2 n b) (l : n < 9000) : m__law_part [.int t, .int b] = .ok (.tup [.int (pT t b), .int (pB t b)]) := by
  by_cases hb : b < 0
  · obtain ⟨e, he⟩ := part7 (t := -t) (b := -b) (by omega) s.neg l
    rw [gg_neg] at he
    simp [m__law_part, b__law_part, b__law_part_1, runF, slAll, slOf, hb, pT, pB, he]
  · obtain ⟨e, he⟩ := part7 (t := t) (b := b) (by omega) s l
    simp [m__law_part, b__law_part, b__law_part_1, runF, slAll, slOf, hb, pT, pB, he]
/-! ### the parts' defs -/
def tp (a b : Int) : D := .tup [.int a, .int b]
theorem e_less {a b c d : Int} {n : Nat} (ha : Sm2 n a) (hb : Sm2 n b) (hc : Sm2 n c) (hd : Sm2 n d) (l : n < 4000) : m_less_part [tp a b, tp c d] = .ok (.bl (decide (a * d < c * b))) := by
  have h1 : mulC a d = true := ha.mulC hd (by omega)
  have h2 : mulC c b = true := hc.mulC hb (by omega)
  simp [b_less_part, m_less_part, runF, slAll, slOf, tp, h1, h2]
theorem e_add {a b c d : Int} {n : Nat} (ha : Sm2 n a) (hb : Sm2 n b) (hc : Sm2 n c) (hd : Sm2 n d) (l : n < 4000) (b0 : b * d ≠ 0) : m_add_parts [tp a b, tp c d] = .ok (tp (pT (a * d + c * b) (b * d)) (pB (a * d + c * b) (b * d))) := by
  have h1 : mulC a d = true := ha.mulC hd (by omega)
  have h2 : mulC c b = true := hc.mulC hb (by omega)
  have h3 : mulC b d = true := hb.mulC hd (by omega)
  have h4 := e_make (t := a * d + c * b) b0 (hb.mul hd) (by omega)
  simp [b_add_parts, m_add_parts, runF, slAll, slOf, tp, h1, h2, h3, h4]
theorem e_minus {a b c d : Int} {n : Nat} (ha : Sm2 n a) (hb : Sm2 n b) (hc : Sm2 n c) (hd : Sm2 n d) (l : n < 4000) (b0 : b * d ≠ 0) : m_minus_parts [tp a b, tp c d] = .ok (tp (pT (a * d - c * b) (b * d)) (pB (a * d - c * b) (b * d))) := by
  have h1 : mulC a d = true := ha.mulC hd (by omega)
  have h2 : mulC c b = true := hc.mulC hb (by omega)
  have h3 : mulC b d = true := hb.mulC hd (by omega)
  have h4 := e_make (t := a * d - c * b) b0 (hb.mul hd) (by omega)
  simp [b_minus_parts, m_minus_parts, runF, slAll, slOf, tp, h1, h2, h3, h4]
theorem e_times {a b c d : Int} {n : Nat} (ha : Sm2 n a) (hb : Sm2 n b) (hc : Sm2 n c) (hd : Sm2 n d) (l : n < 4000) (b0 : b * d ≠ 0) : m_times_parts [tp a b, tp c d] = .ok (tp (pT (a * c) (b * d)) (pB (a * c) (b * d))) := by
  have h1 : mulC a c = true := ha.mulC hc (by omega)
  have h3 : mulC b d = true := hb.mulC hd (by omega)
  have h4 := e_make (t := a * c) b0 (hb.mul hd) (by omega)
  simp [b_times_parts, m_times_parts, runF, slAll, slOf, tp, h1, h3, h4]
theorem e_over {a b c d : Int} {n : Nat} (ha : Sm2 n a) (hb : Sm2 n b) (hc : Sm2 n c) (hd : Sm2 n d) (l : n < 4000) (b0 : b * c ≠ 0) : m_over_parts [tp a b, tp c d] = .ok (tp (pT (a * d) (b * c)) (pB (a * d) (b * c))) := by
  have h1 : mulC a d = true := ha.mulC hd (by omega)
  have h3 : mulC b c = true := hb.mulC hc (by omega)
  have h4 := e_make (t := a * d) b0 (hb.mul hc) (by omega)
  simp [b_over_parts, m_over_parts, runF, slAll, slOf, tp, h1, h3, h4]
theorem e_over0 {d : Int} {n : Nat} (hd : Sm2 n d) (l : n < 4000) : m_over_parts [tp 3 2, tp 0 d] = .exc ⟨"BadPart", ["place"], [.int 1]⟩ := by
  have h1 : mulC 3 d = true := Sm2.mulC (n := 2) (by unfold Sm2; decide) hd (by omega)
  have h3 : mulC 2 0 = true := by decide
  simp [b_over_parts, m_over_parts, runF, slAll, slOf, tp, h1, h3, e_make0]
/-! ### the law's questions -/
theorem e_is {t b : Int} {n : Nat} (h : b ≠ 0) (s : Sm2 n b) (l : n < 9000) : m__law_is_part [tp (pT t b) (pB t b)] = .ok (.bl true) := by
  have p := pB_pos (t := t) h
  have h1 := e_part (t := pT t b) (show pB t b ≠ 0 by omega) (pB_sm h s) l
  have g := gg_one (t := t) h
  have e1 : pT (pT t b) (pB t b) = pT t b := by
    rw [pT.eq_def (pT t b) (pB t b), g, Int.ediv_one, if_neg (by omega)]
  have e2 : pB (pT t b) (pB t b) = pB t b := by
    rw [pB.eq_def (pT t b) (pB t b), g, Int.ediv_one, if_neg (by omega)]
  rw [e1, e2] at h1
  simp [b__law_is_part_1, b__law_is_part_2, b__law_is_part_3, b__law_is_part, m__law_is_part, runF, slAll, slOf, tp, loopF, putV, h1, p]
theorem e_stands {t b : Int} {n : Nat} (h : b ≠ 0) (s : Sm2 n b) (l : n < 9000) : m__law_stands [tp (pT t b) (pB t b), .int t, .int b] = .ok (.bl true) := by
  have h1 := e_is (t := t) h s l
  have h2 := e_part (t := t) h s l
  unfold tp at h1
  simp [b__law_stands, m__law_stands, runF, slAll, slOf, tp, h1, h2]
theorem e_orders {a b c d : Int} {n : Nat} (ha : Sm2 n a) (hb : Sm2 n b) (hc : Sm2 n c) (hd : Sm2 n d) (l : n < 4000) : m__law_orders [tp a b, tp c d] = .ok (.bl true) := by
  have h1 := e_less ha hb hc hd l
  have h2 := e_less hc hd ha hb l
  have h3 : mulC a d = true := ha.mulC hd (by omega)
  have h4 : mulC c b = true := hc.mulC hb (by omega)
  unfold tp at h1 h2
  have e1 : decide (a * d < c * b) = decide (a * d - c * b < 0) := by
    rw [decide_eq_decide]
    omega
  have e2 : decide (c * b < a * d) = decide (0 < a * d - c * b) := by
    rw [decide_eq_decide]
    omega
  simp [b__law_orders_1, b__law_orders_2, b__law_orders_3, b__law_orders_4, b__law_orders, m__law_orders, runF, slAll, slOf, tp, h1, h2, h3, h4, e1, e2]
theorem e_ref0 (t : Int) : m__law_refused [.int 0, .int t, .int 0] = .ok (.bl true) := by
  simp [b__law_refused_1, b__law_refused_2, b__law_refused, m__law_refused, runF, slAll, slOf, e_make0, noEx, List.lookup]
theorem e_ref1 {d : Int} {n : Nat} (hd : Sm2 n d) (l : n < 4000) : m__law_refused [.int 1, .int 0, .int d] = .ok (.bl true) := by
  have h := e_over0 hd l
  unfold tp at h
  simp [b__law_refused_1, b__law_refused_2, b__law_refused, m__law_refused, runF, slAll, slOf, h, noEx, List.lookup]
end L05

namespace L05
open PySem PySem.Spec PyProof.Rows L2 NdefX PV
/-! ### the drawn row -/
def InR (r : List Int) : Prop := ∀ x ∈ r, 0 ≤ x ∧ x < 997
def rowE (ns : List Int) (many rest : Int) (r : List Int) (mixed : Int) (s5 s6 : Sl) : PV.Env := [.o (.fz (.scr ns)), .o (.fz (.int many)), .o (.fz (.int rest)), .o (.lst ((r.map D.int).map O.fz)), .o (.fz (.int mixed)), s5, s6]
theorem mod_in (x : Int) : 0 ≤ x % 997 ∧ x % 997 < 997 := ⟨Int.emod_nonneg _ (by decide), Int.emod_lt_of_pos _ (by decide)⟩
theorem InR.app {r : List Int} (h : InR r) (x : Int) : InR (r ++ [x % 997]) := fun y hy => by
  rcases List.mem_append.mp hy with hy | hy
  · exact h y hy
  · rw [List.mem_singleton.mp hy]
    exact mod_in x
theorem sm_lit {n : Nat} {i : Int} (h : decide (i.natAbs < 2 ^ n) = true) : Sm2 n i := by
  unfold Sm2
  exact of_decide_eq_true h
theorem map_app (r : List Int) (x : Int) : (r.map D.int).map O.fz ++ [O.fz (.int x)] = ((r ++ [x]).map D.int).map O.fz := by simp
theorem divC_lit (i : Int) {j : Int} (h : (decide (0 < j ∧ j.natAbs.log2 < 9000)) = true) : divC i j = true := h
theorem mod_sm (x : Int) {m : Int} {n : Nat} (h0 : 0 < m) (h : decide (m.natAbs ≤ 2 ^ n) = true) : Sm2 n (x % m) := by
  have h1 := Int.emod_nonneg x (show m ≠ 0 by omega)
  have h2 := Int.emod_lt_of_pos x h0
  have h3 := of_decide_eq_true h
  unfold Sm2
  omega
theorem row_tail (ns : List Int) (many rest : Int) (r : List Int) (mixed : Int) (cell : Int) (k : Nat) (hk : k < 1000) (hr : InR r) (hl : r.length = k) (hm : Sm2 31 mixed) :
    ∃ rest' r' mixed', b__law_row_3 (rowE ns many rest r mixed (.o (.fz (.int k))) (.o (.fz (.int cell)))) = .ok .nx (rowE ns many rest' r' mixed' (.o (.fz (.int k))) (.o (.fz (.int cell)))) ∧ InR r' ∧ r'.length = k + 1 ∧ Sm2 31 mixed' := by
  have h1 : mulC mixed 48271 = true := hm.mulC (m := 16) (sm_lit (by decide)) (by decide)
  have h2 : mulC (cell % 1000003) 69621 = true := (mod_sm (n := 20) cell (by decide) (by decide)).mulC (m := 17) (sm_lit (by decide)) (by decide)
  have h3 : mulC (k : Int) 7907 = true := Sm2.mulC (n := 10) (m := 13) (by unfold Sm2; omega) (sm_lit (by decide)) (by decide)
  have d1 : ∀ i, divC i 997 = true := fun i => divC_lit i (by decide)
  have d2 : ∀ i, divC i 11 = true := fun i => divC_lit i (by decide)
  have hz : r.length < sizeLine := by rw [sizeLine_eq]; omega
  have hm2 : ∀ x : Int, Sm2 31 (x % 2147483647) := fun x => mod_sm x (by decide) (by decide)
  by_cases hp : 0 < rest
  · refine ⟨rest / 997, r ++ [rest % 997], _, ?_, hr.app _, by rw [List.length_append, hl]; rfl, hm2 (mixed * 48271 + cell % 1000003 * 69621 + k * 7907)⟩
    rw [rowE, rowE, ← map_app]
    simp [b__law_row_3, b__law_row_2, b__law_row_1, h1, h2, h3, d1, d2, hp, hz]
  · refine ⟨rest, r ++ [(mixed * 48271 + cell % 1000003 * 69621 + k * 7907) % 2147483647 / 11 % 997], _, ?_, hr.app _, by rw [List.length_append, hl]; rfl, hm2 (mixed * 48271 + cell % 1000003 * 69621 + k * 7907)⟩
    rw [rowE, rowE, ← map_app]
    simp [b__law_row_3, b__law_row_2, b__law_row_1, h1, h2, h3, d1, d2, hp, hz]
theorem row_step (ns : List Int) (many rest : Int) (r : List Int) (mixed : Int) (k : Nat) (s6 : Sl) (hk : k < 1000) (hr : InR r) (hl : r.length = k) (hm : Sm2 31 mixed) :
    ∃ rest' r' mixed' s6', b__law_row_5 (rowE ns many rest r mixed (.o (.fz (.int k))) s6) = .ok .nx (rowE ns many rest' r' mixed' (.o (.fz (.int k))) s6') ∧ InR r' ∧ r'.length = k + 1 ∧ Sm2 31 mixed' := by
  by_cases hn : ns.length = 0
  · obtain ⟨a, b, c, h, h2⟩ := row_tail ns many rest r mixed k k hk hr hl hm
    refine ⟨a, b, c, .o (.fz (.int k)), ?_, h2⟩
    rw [← h]
    simp [b__law_row_5, b__law_row_4, rowE, hn]
  · have h0 : 0 < ns.length := by omega
    have hmin : (0 : Int) < (if (63 : Int) < (ns.length : Int) then 63 else (ns.length : Int)) := by split <;> omega
    have hlt : (k : Int) % (if (63 : Int) < (ns.length : Int) then 63 else (ns.length : Int)) < ns.length := by
      have := Int.emod_lt_of_pos (k : Int) hmin
      split at this <;> split <;> omega
    have hge := Int.emod_nonneg (k : Int) (show (if (63 : Int) < (ns.length : Int) then 63 else (ns.length : Int)) ≠ 0 by omega)
    obtain ⟨j, hj⟩ := Int.eq_ofNat_of_zero_le hge
    have hj2 : j < ns.length := by rw [hj] at hlt; omega
    have hat : atI ns ((k : Int) % (if (63 : Int) < (ns.length : Int) then 63 else (ns.length : Int))) = some ns[j] := by
      rw [hj]
      exact (at_nat ns j).trans (List.getElem?_eq_getElem hj2)
    obtain ⟨a, b, c, h, h2⟩ := row_tail ns many rest r mixed ns[j] k hk hr hl hm
    refine ⟨a, b, c, .o (.fz (.int ns[j])), ?_, h2⟩
    rw [← h]
    simp [b__law_row_5, b__law_row_4, rowE, h0, hmin, hat]
theorem row_loop (ns : List Int) (many rest : Int) (n : Nat) (hn : n ≤ 1000) (s5 s6 : Sl) : ∃ rest' r' mixed' s5' s6', loopF (putV 5) b__law_row_5 (rngD 0 n) (rowE ns many rest [] 12345 s5 s6) = .ok .nx (rowE ns many rest' r' mixed' s5' s6') ∧ InR r' ∧ r'.length = n := by
  obtain ⟨e', h1, rest', r', mixed', a, b, rfl, h2, h3, _⟩ := loopF_inv (put := putV 5) (body := b__law_row_5) (fun k e => ∃ rest' r' mixed' a b, e = rowE ns many rest' r' mixed' a b ∧ InR r' ∧ r'.length = k ∧ Sm2 31 mixed') (rngD 0 n) (fun k d e hd ⟨rest', r', mixed', a, b, he, h2, h3, h4⟩ => by
    obtain ⟨hk, rfl⟩ := rng_get hd
    subst he
    rw [Int.zero_add]
    obtain ⟨rest2, r2, mixed2, b2, h5, h6, h7, h8⟩ := row_step ns many rest' r' mixed' k b (by omega) h2 h3 h4
    exact ⟨rowE ns many rest' r' mixed' (.o (.fz (.int k))) b, _, by simp [putV, rowE], .inl h5, rest2, r2, mixed2, _, b2, rfl, h6, h7, h8⟩) (rowE ns many rest [] 12345 s5 s6) ⟨rest, [], 12345, s5, s6, rfl, fun x hx => absurd hx (by simp), rfl, sm_lit (by decide)⟩
  rw [rng_len] at h3
  exact ⟨rest', r', mixed', a, b, h1, h2, h3⟩
theorem row_key (ns : List Int) (n : Nat) (hn : n ≤ 1000) (rest : Int) : ∃ r : List Int, (∃ e, b__law_row_9 [.o (.fz (.scr ns)), .o (.fz (.int n)), .o (.fz (.int rest)), .un, .un, .un, .un] = .ok (.rt (.lst (r.map D.int))) e) ∧ InR r ∧ r.length = n := by
  have hb : (n : Int) < 4611686018427387904 := by omega
  have hb0 : (-4611686018427387904 : Int) ≤ n := by omega
  obtain ⟨rest', r', mixed', a, b, h1, h2, h3⟩ := row_loop ns n rest n hn .un .un
  unfold rowE at h1
  simp only [List.map_nil] at h1
  exact ⟨r', by simp [b__law_row_9, b__law_row_8, b__law_row_7, b__law_row_6, hb, hb0, h1], h2, h3⟩
theorem row_test (x : Int) (ns : List Int) (E : PV.Env) : (sAndT (sAsT (sBin iGt (sLenV 0) (sC (.int 0)))) (sAsT (sBin iGe (sIdxV 0 (sC (.int 0))) (sBin iPow (sC (.int 10)) (sC (.int 18)))))) (.o (.fz (.scr (x :: ns))) :: E) = .ok (decide ((1000000000000000000 : Int) ≤ x)) (.o (.fz (.scr (x :: ns))) :: E) := by
  have pw : powC 10 18 = true := by decide
  have p : (0 : Int) < (ns.length : Int) + 1 := by omega
  simp [pw, p]
theorem row_10 (x : Int) (ns : List Int) (n : Int) : ∃ rest, b__law_row_10 [.o (.fz (.scr (x :: ns))), .o (.fz (.int n)), .o (.fz (.int 0)), .un, .un, .un, .un] = b__law_row_9 [.o (.fz (.scr (x :: ns))), .o (.fz (.int n)), .o (.fz (.int rest)), .un, .un, .un, .un] := by
  unfold b__law_row_10
  rw [sSeq_ap, sIf_ap, row_test, e_ok]
  generalize decide ((1000000000000000000 : Int) ≤ x) = b
  cases b with
  | true => exact ⟨x, by simp⟩
  | false => exact ⟨0, by simp⟩
theorem row_nil (n : Int) (d : D) (e : PV.Env) (h : b__law_row_9 [Sl.o (O.fz (D.scr [])), Sl.o (O.fz (D.int n)), Sl.o (O.fz (D.int 0)), Sl.un, Sl.un, Sl.un, Sl.un] = .ok (.rt d) e) : m__law_row [.scr [], .int n] = .ok d := by
  simp [m__law_row, b__law_row, b__law_row_10, runF, slAll, slOf, h]
theorem row_cons (n : Int) (d : D) (x : Int) (ns : List Int) (e : PV.Env) (hr : b__law_row_10 [Sl.o (O.fz (D.scr (x :: ns))), Sl.o (O.fz (D.int n)), Sl.o (O.fz (D.int 0)), Sl.un, Sl.un, Sl.un, Sl.un] = .ok (.rt d) e) : m__law_row [.scr (x :: ns), .int n] = .ok d := by
  simp [m__law_row, b__law_row, runF, slAll, slOf, hr]
theorem e_row (ns : List Int) (n : Nat) (hn : n ≤ 1000) : ∃ r : List Int, m__law_row [.scr ns, .int n] = .ok (.lst (r.map D.int)) ∧ InR r ∧ r.length = n := by
  rcases ns with _ | ⟨x, ns⟩
  · obtain ⟨r, ⟨e, h⟩, h2⟩ := row_key [] n hn 0
    exact ⟨r, row_nil _ _ _ h, h2⟩
  · obtain ⟨rest, hr⟩ := row_10 x ns n
    obtain ⟨r, ⟨e, h⟩, h2⟩ := row_key (x :: ns) n hn rest
    exact ⟨r, row_cons _ _ _ _ _ (hr.trans h), h2⟩
end L05

namespace L05
open PySem PySem.Spec PyProof.Rows L2 NdefX PV
theorem many_of (j : Int) (h0 : 0 ≤ j) (h6 : j < 6) : ∃ m : Nat, m ≤ 20 ∧ atI [D.int 1, .int 1, .int 2, .int 3, .int 8, .int 20] j = some (.int m) := by
  obtain ⟨k, rfl⟩ := Int.eq_ofNat_of_zero_le h0
  have hk : k < 6 := by omega
  match k, hk with
  | 0, _ => exact ⟨1, by decide, rfl⟩
  | 1, _ => exact ⟨1, by decide, rfl⟩
  | 2, _ => exact ⟨2, by decide, rfl⟩
  | 3, _ => exact ⟨3, by decide, rfl⟩
  | 4, _ => exact ⟨8, by decide, rfl⟩
  | 5, _ => exact ⟨20, by decide, rfl⟩
theorem at_row {r : List Int} {j : Int} (h0 : 0 ≤ j) (h : j < r.length) (hr : InR r) : ∃ x, atI (r.map D.int) j = some (.int x) ∧ 0 ≤ x ∧ x < 997 := by
  obtain ⟨k, rfl⟩ := Int.eq_ofNat_of_zero_le h0
  have hk : k < r.length := by omega
  refine ⟨r[k], ?_, hr _ (List.getElem_mem hk)⟩
  exact (at_nat _ k).trans (by rw [List.getElem?_map, List.getElem?_eq_getElem hk]; rfl)
def numE (r : List Int) (a m t : Int) (s : Sl) : PV.Env := [.o (.fz (.lst (r.map D.int))), .o (.fz (.int a)), .o (.fz (.int m)), .o (.fz (.int t)), s]
theorem num_step {r : List Int} (hr : InR r) (hl : r.length = 90) (a m : Int) (t k : Nat) (ha : 0 ≤ a) (n : Nat) (hn : n < 1000) (ht : t < 2 ^ n) :
    ∃ t' : Nat, b__law_number_1 (numE r a m t (.o (.fz (.int k)))) = .ok .nx (numE r a m t' (.o (.fz (.int k)))) ∧ t' < 2 ^ (n + 10) := by
  have h1 : mulC (t : Int) 997 = true := Sm2.mulC (n := n) (m := 10) (by unfold Sm2; omega) (sm_lit (by decide)) (by omega)
  obtain ⟨x, hx, x0, x1⟩ := at_row (r := r) (j := (a + 1 + k) % 90) (Int.emod_nonneg _ (by decide)) (by have := Int.emod_lt_of_pos (a + 1 + k) (show (0 : Int) < 90 by decide); omega) hr
  obtain ⟨y, rfl⟩ := Int.eq_ofNat_of_zero_le x0
  refine ⟨t * 997 + y, ?_, ?_⟩
  · simp [b__law_number_1, numE, h1, hl, hx]
  · rw [Nat.pow_add]
    have : (2 : Nat) ^ 10 = 1024 := by decide
    omega
theorem num_end {r : List Int} (hr : InR r) (hl : r.length = 90) (a m : Int) (t : Int) (s : Sl) (ha : 0 ≤ a) (ha2 : a < 90) (n : Nat) (ht : Sm2 n t) : ∃ v, (∃ e, b__law_number_4 (numE r a m t s) = .ok (.rt (.int v)) e) ∧ Sm2 n v := by
  obtain ⟨x, hx, x0, x1⟩ := at_row (r := r) (j := a) ha (by omega) hr
  have d6 : divC x 6 = true := divC_lit x (by decide)
  have z : Sm2 n 0 := by
    unfold Sm2 at *
    have := Nat.two_pow_pos n
    simpa using this
  by_cases h7 : x % 7 = 0 <;> by_cases h6 : x / 6 % 2 = 0
  · exact ⟨0, by simp [b__law_number_4, b__law_number_3, b__law_number_2, numE, hx, d6, h7, h6], z⟩
  · exact ⟨0, by simp [b__law_number_4, b__law_number_3, b__law_number_2, numE, hx, d6, h7, h6], z⟩
  · exact ⟨-t, by simp [b__law_number_4, b__law_number_3, b__law_number_2, numE, hx, d6, h7, h6], ht.neg⟩
  · exact ⟨t, by simp [b__law_number_4, b__law_number_3, b__law_number_2, numE, hx, d6, h7, h6], ht⟩
theorem num_5 {r : List Int} (hr : InR r) (hl : r.length = 90) (a : Int) (m : Nat) (hm : m ≤ 20) (s : Sl) (ha : 0 ≤ a) (ha2 : a < 90) : ∃ v, (∃ e, b__law_number_5 (numE r a m 0 s) = .ok (.rt (.int v)) e) ∧ Sm2 200 v := by
  obtain ⟨e', h1, t, s', rfl, h2⟩ := loopF_inv (put := putV 4) (body := b__law_number_1) (fun k e => ∃ (t : Nat) (s : Sl), e = numE r a m t s ∧ t < 2 ^ (10 * k)) (rngD 0 m) (fun k d e hd ⟨t, s, he, ht⟩ => by
    obtain ⟨hk, rfl⟩ := rng_get hd
    subst he
    rw [Int.zero_add]
    obtain ⟨t', h3, h4⟩ := num_step hr hl a m t k ha (10 * k) (by omega) ht
    exact ⟨numE r a m t (.o (.fz (.int k))), _, by simp [putV, numE], .inl h3, t', _, rfl, h4⟩) (numE r a m 0 s) ⟨0, s, rfl, by simp⟩
  rw [rng_len] at h2
  have ht : Sm2 200 (t : Int) := by
    have : (2 : Nat) ^ (10 * m) ≤ 2 ^ 200 := Nat.pow_le_pow_right (by decide) (by omega)
    unfold Sm2
    omega
  obtain ⟨v, ⟨e, h3⟩, h4⟩ := num_end hr hl a m t s' ha ha2 200 ht
  have hb : (m : Int) < 4611686018427387904 := by omega
  have hb0 : (-4611686018427387904 : Int) ≤ m := by omega
  refine ⟨v, ⟨e, ?_⟩, h4⟩
  rw [← h3]
  unfold b__law_number_5
  rw [sSeq_ap, sFor_ap]
  have hr1 : sRng1 (sCons (sVar 2) sNil) (numE r a m 0 s) = .ok (rngD 0 m, .non) (numE r a m 0 s) := by simp [numE, hb, hb0]
  rw [hr1, e_ok]
  show (match loopF (putV 4) b__law_number_1 (rngD 0 m) (numE r a m 0 s) with
    | .ok .nx e1 => b__law_number_4 e1
    | r => r) = _
  rw [h1]
theorem e_number {r : List Int} (hr : InR r) (hl : r.length = 90) (a : Int) (ha : 0 ≤ a) (ha2 : a < 90) : ∃ v, m__law_number [.lst (r.map D.int), .int a] = .ok (.int v) ∧ Sm2 200 v := by
  obtain ⟨x, hx, x0, x1⟩ := at_row (r := r) (j := a) ha (by omega) hr
  obtain ⟨m, hm, h6⟩ := many_of (x % 6) (Int.emod_nonneg _ (by decide)) (Int.emod_lt_of_pos _ (by decide))
  obtain ⟨v, ⟨e, h⟩, h2⟩ := num_5 hr hl a m hm .un ha ha2
  refine ⟨v, ?_, h2⟩
  unfold numE at h
  simp [m__law_number, b__law_number, b__law_number_6, runF, slAll, slOf, hx, h6, h]
end L05

namespace L05
open PySem PySem.Spec PyProof.Rows L2 NdefX PV
section
variable (s0 s1 s2 s3 s4 s5 s6 : Sl) (A B C E : Int)
def V (x : Sl) : PV.Env := [s0, s1, s2, s3, s4, s5, s6, .o (.fz (.tup [.int A, .int B])), .o (.fz (.tup [.int C, .int E])), x]
def Rt (r : Rs Fl) : Prop := ∃ e, r = .ok (.rt (.bl true)) e
variable {A B C E} (hA : Sm2 300 A) (hB : Sm2 300 B) (hC : Sm2 300 C) (hE : Sm2 300 E) (pB0 : 0 < B) (pE0 : 0 < E)
include hA hB hC hE pB0 pE0
theorem l3 (x : Sl) : Rt (b_law_3 (V s0 s1 s2 s3 s4 s5 s6 A B C E x)) := by
  have h1 := e_orders hA hB hC hE (by decide)
  have h2 := e_orders (n := 301) (hC.mono (by decide)) (hE.mono (by decide)) (hC.add ((show Sm2 2 1 from sm_lit (by decide)).mono (by decide))) (hE.mono (by decide)) (by decide)
  have h3 := e_orders hA hB hA.neg hB (by decide)
  unfold tp at h1 h2 h3
  simp [Rt, b_law_3, V, h1, h2, h3]
theorem l4 (x : Sl) : Rt (b_law_4 (V s0 s1 s2 s3 s4 s5 s6 A B C E (.o (.fz (.tup [.int (pT A B), .int (pB A B)]))))) := by
  have b0 : B ≠ 0 := by omega
  have g := gg_pos (t := A) b0
  have sT : Sm2 300 (pT A B) := by
    have e : pT A B * gg A B = A := by
      unfold pT
      rw [if_neg (by omega)]
      exact Int.ediv_mul_cancel (gg_dt A B)
    have e2 : (pT A B).natAbs * (gg A B).natAbs = A.natAbs := by rw [← Int.natAbs_mul, e]
    have : (pT A B).natAbs ≤ (pT A B).natAbs * (gg A B).natAbs := Nat.le_mul_of_pos_right _ (by omega)
    unfold Sm2 at *
    omega
  have e : A * pB A B = pT A B * B := by
    unfold pT pB
    rw [if_neg (by omega), if_neg (by omega)]
    obtain ⟨k, hk⟩ := gg_dt A B
    obtain ⟨m, hm⟩ := gg_db A B
    rw [div_of hk (by omega), div_of hm (by omega)]
    generalize gg A B = q at hk hm
    rw [hk, hm]
    rw [Int.mul_comm q k, Int.mul_assoc]
  have h1 := e_less hA hB sT (pB_sm (t := A) b0 hB) (by decide)
  have h2 := e_less sT (pB_sm (t := A) b0 hB) hA hB (by decide)
  rw [e, decide_eq_false (by omega)] at h1
  rw [← e, decide_eq_false (by omega)] at h2
  unfold tp at h1 h2
  have h3 := l3 s0 s1 s2 s3 s4 s5 s6 hA hB hC hE pB0 pE0 (.o (.fz (.tup [.int (pT A B), .int (pB A B)])))
  unfold V at h3
  simp [b_law_4, V, h1, h2, h3]
theorem l5 (x : Sl) : Rt (b_law_5 (V s0 s1 s2 s3 s4 s5 s6 A B C E x)) := by
  have h1 := e_part (t := A) (show B ≠ 0 by omega) hB (by decide)
  have h4 := l4 s0 s1 s2 s3 s4 s5 s6 hA hB hC hE pB0 pE0 x
  unfold V at h4
  simp [b_law_5, V, h1, h4]
theorem l6 (x : Sl) : Rt (b_law_6 (V s0 s1 s2 s3 s4 s5 s6 A B C E x)) := by
  have h5 := l5 s0 s1 s2 s3 s4 s5 s6 hA hB hC hE pB0 pE0 x
  have h1 := e_ref1 hE (by decide)
  unfold V at h5
  by_cases c0 : C = 0
  · subst c0
    simp [b_law_6, V, h1, h5]
  · simp [b_law_6, V, c0, h5]
theorem l7 (x : Sl) : Rt (b_law_7 (V s0 s1 s2 s3 s4 s5 s6 A B C E x)) := by
  have h6 := l6 s0 s1 s2 s3 s4 s5 s6 hA hB hC hE pB0 pE0 x
  unfold V at h6
  by_cases c0 : C = 0
  · subst c0
    simp [b_law_7, V, h6]
  · have bc : B * C ≠ 0 := Int.mul_ne_zero (by omega) c0
    have h1 := e_over hA hB hC hE (by decide) bc
    have h2 := e_stands (t := A * E) bc (hB.mul hC) (by decide)
    have m1 : mulC A E = true := hA.mulC hE (by decide)
    have m2 : mulC B C = true := hB.mulC hC (by decide)
    unfold tp at h1 h2
    simp [b_law_7, V, c0, h1, h2, m1, m2, h6]
theorem l8 (x : Sl) : Rt (b_law_8 (V s0 s1 s2 s3 s4 s5 s6 A B C E x)) := by
  have h6 := l7 s0 s1 s2 s3 s4 s5 s6 hA hB hC hE pB0 pE0 x
  unfold V at h6
  have bc : B * E ≠ 0 := Int.mul_ne_zero (by omega) (by omega)
  have h1 := e_times hA hB hC hE (by decide) bc
  have h2 := e_stands (t := A * C) bc (hB.mul hE) (by decide)
  have m1 : mulC A C = true := hA.mulC hC (by decide)
  have m2 : mulC B E = true := hB.mulC hE (by decide)
  unfold tp at h1 h2
  simp [b_law_8, V, h1, h2, m1, m2, h6]
theorem l9 (x : Sl) : Rt (b_law_9 (V s0 s1 s2 s3 s4 s5 s6 A B C E x)) := by
  have h6 := l8 s0 s1 s2 s3 s4 s5 s6 hA hB hC hE pB0 pE0 x
  unfold V at h6
  have bc : B * E ≠ 0 := Int.mul_ne_zero (by omega) (by omega)
  have h1 := e_minus hA hB hC hE (by decide) bc
  have h2 := e_stands (t := A * E - C * B) bc (hB.mul hE) (by decide)
  have m1 : mulC A E = true := hA.mulC hE (by decide)
  have m3 : mulC C B = true := hC.mulC hB (by decide)
  have m2 : mulC B E = true := hB.mulC hE (by decide)
  unfold tp at h1 h2
  simp [b_law_9, V, h1, h2, m1, m2, m3, h6]
theorem l10 (x : Sl) : Rt (b_law_10 (V s0 s1 s2 s3 s4 s5 s6 A B C E x)) := by
  have h6 := l9 s0 s1 s2 s3 s4 s5 s6 hA hB hC hE pB0 pE0 x
  unfold V at h6
  have bc : B * E ≠ 0 := Int.mul_ne_zero (by omega) (by omega)
  have h1 := e_add hA hB hC hE (by decide) bc
  have h2 := e_stands (t := A * E + C * B) bc (hB.mul hE) (by decide)
  have m1 : mulC A E = true := hA.mulC hE (by decide)
  have m3 : mulC C B = true := hC.mulC hB (by decide)
  have m2 : mulC B E = true := hB.mulC hE (by decide)
  unfold tp at h1 h2
  simp [b_law_10, V, h1, h2, m1, m2, m3, h6]
end
end L05

namespace L05
open PySem PySem.Spec PyProof.Rows L2 NdefX PV
theorem rng2 : rngD 0 2 = [.int 0, .int 1] := rfl
theorem rng4 : rngD 0 4 = [.int 0, .int 1, .int 2, .int 3] := rfl
def ab (b : Int) : Int := if b < 0 then -b else b
theorem ab_pos {b : Int} (h : b ≠ 0) : 0 < ab b := by unfold ab; split <;> omega
theorem ab_sm {b : Int} {n : Nat} (h : Sm2 n b) : Sm2 n (ab b) := by
  unfold ab
  split
  · exact h.neg
  · exact h
section
variable (s0 s2 s3 s6 s7 s8 s9 : Sl) {r : List Int} (hr : InR r) (hl : r.length = 90) {v0 v1 b2 b3 : Int} (h0 : Sm2 200 v0) (h1 : Sm2 200 v1) (h2 : Sm2 200 b2) (h3 : Sm2 200 b3) (n2 : b2 ≠ 0) (n3 : b3 ≠ 0)
include hr hl h0 h1 h2 h3 n2 n3
theorem l13 : Rt (b_law_13 [s0, .o (.fz (.lst (r.map D.int))), s2, s3, .o (.lst [.fz (.int b2), .fz (.int b3)]), .o (.lst [.fz (.int v0), .fz (.int v1)]), s6, s7, s8, s9]) := by
  obtain ⟨x, hx⟩ : ∃ x, r[89]? = some x := ⟨r[89], List.getElem?_eq_getElem (by omega)⟩
  have t0 : 0 ≤ x % 9 := Int.emod_nonneg _ (by decide)
  have t1 : x % 9 < 9 := Int.emod_lt_of_pos _ (by decide)
  have ht : Sm2 10 (1 + x % 9) := by unfold Sm2; omega
  have m1 : mulC (1 + x % 9) v0 = true := ht.mulC h0 (by decide)
  have m2 : mulC (1 + x % 9) (if b2 < 0 then -b2 else b2) = true := ht.mulC (ab_sm h2) (by decide)
  have hB : 0 < (1 + x % 9) * ab b2 := Int.mul_pos (by omega) (ab_pos n2)
  obtain ⟨e, he⟩ := l10 s0 (.o (.fz (.lst (r.map D.int)))) s2 s3 (.o (.lst [.fz (.int b2), .fz (.int b3)])) (.o (.lst [.fz (.int v0), .fz (.int v1)])) (.o (.fz (.int (1 + x % 9)))) ((ht.mul h0).mono (by decide)) ((ht.mul (ab_sm h2)).mono (by decide)) (h1.mono (by decide)) ((ab_sm h3).mono (by decide)) hB (ab_pos n3) s9
  unfold V ab at he
  simp [Rt, b_law_13, b_law_12, b_law_11, hx, m1, m2, he]
theorem l14 : Rt (b_law_14 [s0, .o (.fz (.lst (r.map D.int))), s2, s3, .o (.lst [.fz (.int b2), .fz (.int b3)]), .o (.lst [.fz (.int v0), .fz (.int v1)]), s6, s7, s8, s9]) := by
  have a1 := e_make (t := v0) n2 h2 (by decide)
  have a2 := e_stands (t := v0) n2 h2 (by decide)
  have a3 := e_make (t := v1) n3 h3 (by decide)
  have a4 := e_stands (t := v1) n3 h3 (by decide)
  unfold tp at a2 a4
  obtain ⟨e, he⟩ := l13 s0 s2 (.o (.fz (.int 1))) s6 s7 s8 s9 hr hl h0 h1 h2 h3 n2 n3
  simp [Rt, b_law_14, b_law_2, rng2, loopF, putV, a1, a2, a3, a4, he]
end
theorem cut4 (a b c d : D) : cutG [a, b, c, d] none (some 2) = [a, b] := rfl
theorem slL4 (ds : List D) (h : Option Int) : slL none h (.lst ds) = some (.lst ((cutG ds none h).map .fz)) := rfl
section
variable (s0 s3 s5 s6 s7 s8 s9 : Sl) {r : List Int} (hr : InR r) (hl : r.length = 90) {v0 v1 v2 v3 : Int} (h0 : Sm2 200 v0) (h1 : Sm2 200 v1) (h2 : Sm2 200 v2) (h3 : Sm2 200 v3)
include hr hl h0 h1 h2 h3
theorem l15 {b2 b3 : Int} (k2 : Sm2 200 b2) (k3 : Sm2 200 b3) (n2 : b2 ≠ 0) (n3 : b3 ≠ 0) : Rt (b_law_15 [s0, .o (.fz (.lst (r.map D.int))), .o (.lst [.fz (.int v0), .fz (.int v1), .fz (.int v2), .fz (.int v3)]), s3, .o (.lst [.fz (.int b2), .fz (.int b3)]), s5, s6, s7, s8, s9]) := by
  obtain ⟨e, he⟩ := l14 s0 (.o (.fz (.lst [.int v0, .int v1, .int v2, .int v3]))) s3 s6 s7 s8 s9 hr hl h0 h1 k2 k3 n2 n3
  simp [Rt, b_law_15, slL4, cut4, he]
theorem l16 (s4 : Sl) : Rt (b_law_16 [s0, .o (.fz (.lst (r.map D.int))), .o (.lst [.fz (.int v0), .fz (.int v1), .fz (.int v2), .fz (.int v3)]), s3, s4, s5, s6, s7, s8, s9]) := by
  obtain ⟨x, hx⟩ : ∃ x, r[88]? = some x := ⟨r[88], List.getElem?_eq_getElem (by omega)⟩
  have t0 : 0 ≤ x % 2 := Int.emod_nonneg _ (by decide)
  have t1 : x % 2 < 2 := Int.emod_lt_of_pos _ (by decide)
  have m1 : mulC 2 (x % 2) = true := Sm2.mulC (n := 2) (m := 2) (sm_lit (by decide)) (by unfold Sm2; omega) (by decide)
  have hy : Sm2 200 (1 - 2 * (x % 2)) := (show Sm2 3 (1 - 2 * (x % 2)) by unfold Sm2; omega).mono (by decide)
  have ny : 1 - 2 * (x % 2) ≠ 0 := by omega
  have z1 : (0 : Nat) < sizeLine := by decide
  have z2 : (1 : Nat) < sizeLine := by decide
  by_cases c2 : v2 = 0 <;> by_cases c3 : v3 = 0
  · obtain ⟨e, he⟩ := l15 s0 .un s5 s6 s7 s8 s9 hr hl h0 h1 h2 h3 hy hy ny ny
    simp [Rt, b_law_16, loopC, hx, m1, c2, c3, z1, z2] at he ⊢
    simp [he]
  · obtain ⟨e, he⟩ := l15 s0 .un s5 s6 s7 s8 s9 hr hl h0 h1 h2 h3 hy h3 ny c3
    simp [Rt, b_law_16, loopC, hx, m1, c2, c3, z1, z2] at he ⊢
    simp [he]
  · obtain ⟨e, he⟩ := l15 s0 .un s5 s6 s7 s8 s9 hr hl h0 h1 h2 h3 h2 hy c2 ny
    simp [Rt, b_law_16, loopC, hx, m1, c2, c3, z1, z2] at he ⊢
    simp [he]
  · obtain ⟨e, he⟩ := l15 s0 .un s5 s6 s7 s8 s9 hr hl h0 h1 h2 h3 h2 h3 c2 c3
    simp [Rt, b_law_16, loopC, hx, m1, c2, c3, z1, z2] at he ⊢
    simp [he]
theorem l17 (s4 : Sl) : Rt (b_law_17 [s0, .o (.fz (.lst (r.map D.int))), .o (.lst [.fz (.int v0), .fz (.int v1), .fz (.int v2), .fz (.int v3)]), s3, s4, s5, s6, s7, s8, s9]) := by
  obtain ⟨e, he⟩ := l16 s0 (.o (.fz (.int 1))) s5 s6 s7 s8 s9 hr hl h0 h1 h2 h3 s4
  have a0 := e_ref0 v0
  have a1 := e_ref0 v1
  have o : Sm2 2 1 := sm_lit (by decide)
  have a2 := e_ref1 ((o.mono (by decide)).add (ab_sm h0)) (by decide)
  have a3 := e_ref1 ((o.mono (by decide)).add (ab_sm h1)) (by decide)
  unfold ab at a2 a3
  simp [Rt, b_law_17, b_law_1, rng2, loopF, putV, a0, a1, a2, a3, he]
end
theorem l18 (s0 : Sl) {r : List Int} (hr : InR r) (hl : r.length = 90) : Rt (b_law_18 [s0, .o (.fz (.lst (r.map D.int))), .un, .un, .un, .un, .un, .un, .un, .un]) := by
  obtain ⟨v0, e0, k0⟩ := e_number hr hl 0 (by decide) (by decide)
  obtain ⟨v1, e1, k1⟩ := e_number hr hl 22 (by decide) (by decide)
  obtain ⟨v2, e2, k2⟩ := e_number hr hl 44 (by decide) (by decide)
  obtain ⟨v3, e3, k3⟩ := e_number hr hl 66 (by decide) (by decide)
  have m0 : mulC 22 0 = true := by decide
  have m1 : mulC 22 1 = true := by decide
  have m2 : mulC 22 2 = true := by decide
  have m3 : mulC 22 3 = true := by decide
  have z0 : (0 : Nat) < sizeLine := by decide
  have z1 : (1 : Nat) < sizeLine := by decide
  have z2 : (2 : Nat) < sizeLine := by decide
  have z3 : (3 : Nat) < sizeLine := by decide
  obtain ⟨e, he⟩ := l17 s0 .un .un .un .un .un .un hr hl k0 k1 k2 k3 .un
  simp [Rt, b_law_18, rng4, loopC, e0, e1, e2, e3, m0, m1, m2, m3, z0, z1, z2, z3, he]
theorem plain (ns : List Int) : m_law [.scr ns] = .ok (.bl true) := by
  obtain ⟨r, h, hr, hl⟩ := e_row ns 90 (by decide)
  obtain ⟨e, he⟩ := l18 (.o (.fz (.scr ns))) hr hl
  have h : m__law_row [.scr ns, .int 90] = .ok (.lst (r.map D.int)) := h
  simp [m_law, b_law, runF, slAll, slOf, h, he]
end L05

set_option maxHeartbeats 0
namespace L05
open PySem PySem.Spec PyProof.Rows L2 NdefX PV
abbrev R : PySem.W.OpenRow := PySem.W.OpenLaw.row PySem.Challenge.rw_pathsandchances_k05_parts_reckoned_exact
def loose : List Str := ["__name__", "Fault", "BadPart", "BadMark", "make_part", "add_parts", "minus_parts", "times_parts", "over_parts", "less_part", "_law_row", "_law_part", "_law_add", "_law_times", "_law_minus", "_law_less", "_law_sum", "_law_is_part", "_law_number", "_law_refused", "_law_stands", "_law_orders"]
abbrev qv : Program := PySem.W.view R.prog [0, 25]
def ob (s : PySem.W.SharedT) : AlP := hd.ob (HandSHeadRun.getT s)
theorem ob_eq (s : PySem.W.SharedT) : ob s = hd.hook.obs s.abs := Hd.ob_eq (HandSHeadRun.getT_eq s)
theorem run (w : World) : HandSHeadRun.RunEqI R qv hd.hook ob 4000 loose w := by
  unfold HandSHeadRun.RunEqI
  kernel_rfl
end L05
open PySem PySem.W PySem.Calls PyProof.Rows
theorem PySem.Challenge.cw_pathsandchances_k05_parts_reckoned_exact_holds : PySem.Challenge.rw_pathsandchances_k05_parts_reckoned_exact.Holds := by
  w_on; o_law
  refine HandSHeadRun.head_imp (r := L05.R) (q := L05.qv) (H := L05.hd.hook) (ob := L05.ob) (M := 4000) (loose := L05.loose) (d := HandSHeadRun.topDef L05.R.prog 25) (kwd := []) L05.ob_eq L05.run (by kernel_rfl) (by kernel_rfl) (by kernel_rfl) (by rfl) (by first | assumption | decide +kernel) (by decide +kernel) ⟨rfl, rfl, rfl, rfl, rfl, by decide +kernel⟩ ?hw ?hc
  case hw => w_witness2
  case hc => exact PV.walk_ofP (n := 63) (k := 6) (hd := L05.hd) (m := L05.m_law) rfl (by decide) (by kernel_rfl) ⟨rfl, by decide, by decide⟩ ⟨by kernel_rfl, by kernel_rfl⟩ (fun ns _ => L05.plain ns) (by kernel_rfl) (fun B Z => L05.ok_law B Z)

