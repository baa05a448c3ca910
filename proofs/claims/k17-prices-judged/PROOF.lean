import PyProof.Rows.All
import Wide.All
import OpenK.AllK
import Wide.FinOn
import HandS.ForMost
import HandS.ForExc
import HandS.ClsMeth
import HandS.ExcInit
import KE.KSuper
import KE.KExcSuper
import HandS.Defaults
import HandS.TryMany
import HandS.Strs
import HandS.Wide
import HandS.Gcd
import HandS.Flow
import HandS.CallSlots
import HandS.ExcField
import HandS.IsInst
import HandS.FStr
import HandS.SortInts
import PyProof.WalksMore
import HandS.Iter
import HandS.Deep
import HandS.HeadHook1
import HandS.HeadHook2
import HandS.HeadNt
import HandS.HeadHook4
import HandS.HeadEnd
import PyProof.ZipIter
import PyProof.EnumMake
import HandS.Zip
import KE.DataMinMax
import HandS.SortKw
import HandS.Star
import HandS.MakeKwOnly
import HandS.Steps
import PyProof.FString2
import HandS.TupAny
import HandS.SetFor
import HandS.Conv
import HandS.More
import KE.OsSetLaws
import KE.KStateDown
import HandS.Head0
import HandS.Head1
import HandS.Head2
import HandS.Head3
import PySem.Challenge.RW_dealtbychance_k17_prices_judged
set_option Elab.async false
set_option linter.all false
set_option maxRecDepth 100000
set_option maxHeartbeats 4000000
/-! super().__init__(..) over the hand layer. -/
namespace Sy
open PySem PySem.W PySem.Calls PySem.Spec PyProof.Rows L2 ClX

section
variable {X : Cx} {b0 rest : List Stmt} {st : Stmt} {t u : TS}
/-- a block in the activation of the def itself -/
structure PSsA (X : Cx) (b0 st : List Stmt) (t : TS) : Prop where
  run : ∀ (pins : List (Addr × Obj)) (s : Shared) (σ : L2.St) (H : Hp) (D : Ends), Inv X pins σ H s → t D σ H →
    PySem.wpAt (model X.prog X.w) X.A (.func b0 X.env) (execs st X.env) (SP X pins D) X.xe s
theorem psa_of {sts : List Stmt} (h : PSs X sts t) : PSsA X b0 sts t := ⟨fun pins s σ H D I q => PySem.wpAt_of_wpAny (h.run pins s σ H D I q)⟩
theorem psa_cons (h1 : PS X st t) (h2 : PSsA X b0 rest u) : PSsA X b0 (st :: rest) (tSeq t u) := by
  refine ⟨fun pins s σ H D I h => ks_wpAt_execs_cons (PySem.wpAt_of_wpAny ?_)⟩
  refine thn (h1.run pins s σ H { D with nx := u D } I h) fun f s1 q => ?_
  cases f with
  | next =>
    obtain ⟨σ1, H1, I1, q1⟩ := q
    exact h2.run pins s1 σ1 H1 D I1 q1
  | ret v => exact q
  | brk => exact q
  | cont => exact q
end

/-- what the written part tells of a def that says super(): D is the class it stands in, self its first parameter -/
structure SupF (X : Cx) (D : Addr) (nm : Str) : Prop where
  ks : X.env.kindOf "super" = some .globalImplicit
  kc : X.env.kindOf "__class__" = some .free
  fn : ∃ (f : Addr) (oc : Value) (od : Option Addr) (fd : FuncData) (osl : Array (Option Value)) (ar : Arg), X.env.func = some f ∧ X.K.lookup f = some ⟨oc, od, .func fd, osl⟩ ∧ (fd.params.posonlyargs ++ fd.params.args).head? = some ar ∧ ar.arg = nm
  code : ∃ (cda : Addr) (ccl : Value) (cdd : Option Addr) (vs : Array Value) (ccs : Array (Option Value)) (file : Str) (tf : Tok), X.env.code = .ref cda ∧ X.K.lookup cda = some ⟨ccl, cdd, .fields vs, ccs⟩ ∧ vs[2]? = some (.str file tf) ∧ ((X.prog.main.file : Str) == file) = true
  cell : ∃ (cc : Addr) (cl : Value) (cld : Option Addr) (csl : Array (Option Value)) (cdD : ClassData), X.env.cells.lookup ("__class__" : Str) = some cc ∧ X.K.lookup cc = some ⟨cl, cld, .cell (some (.ref D)), csl⟩ ∧ clsIn X.K D = some cdD
  free : X.mg "super" = none
  top : (X.prog.main.scope.names.lookup ("super" : Str)).isSome = false
  opq : nsIn X.K cStatics "thirdparty.any" = some none

section
variable {X : Cx} {pins : List (Addr × Obj)} {σ : L2.St} {H : Hp} {s : Shared} {D x C : Addr} {nm : Str} {ox : Obj} {odx : Option Obj}
theorem cls_there {K : Frag} {h : Heap} {D : Addr} {cd : ClassData} (X : K.In h) (e : clsIn K D = some cd) : ∃ oD, h.get? D = some oD ∧ oD.data = .cls cd := by
  unfold clsIn at e
  split at e
  · rename_i c d cd' sl ho
    cases e
    exact ⟨_, X _ _ ho, rfl⟩
  · cases e
theorem ld_self {i : Nat} {v : V} {u : Value} {Q : Value → Shared → Prop} {E : Value → Shared → Prop} (I : Inv X pins σ H s) (hN : X.N[i]? = some nm) (hv : Vis X.env.scope nm) (hσ : σ[i]? = some (some v)) (hcd : (nm == ("__classdict__" : Str)) = false)
    (h : ∀ u, RelV v u → Q u s) : wpAny (model X.prog X.w) X.A (loadName X.env nm) Q E s := by
  obtain ⟨m, hn, hl⟩ := I.loc
  obtain ⟨u, r, l⟩ := hl i nm v hN hσ hv
  rcases l with ⟨hk, hm⟩ | ⟨hk, c, hc, hcell⟩
  · exact wpAny_loadName_local I.ok.kind hk hn hm (h u r)
  · rcases hk with hk | hk
    · exact wpAny_loadName_cell I.ok.kind hk hc hcell (h u r)
    · exact wpAny_loadName_free I.ok.kind hk hc hcell (h u r) hcd
/-- super(): a new object, pinned -/
theorem sup_node {body : List Stmt} {p0 p1 : Pos} {attr : Str} {whole : Sem Value} {i : Nat} {Q : Value → Shared → Prop} {E : Value → Shared → Prop} (S : SupF X D nm) (I : Inv X pins σ H s)
    (hN : X.N[i]? = some nm) (hvis : Vis X.env.scope nm) (hσ : σ[i]? = some (some (.ref x))) (hcd : (nm == ("__classdict__" : Str)) = false) (hat : (attr == ("__class__" : Str)) = false)
    (J : PySem.W.InstAt s.heap x ox C odx) (hsub : mroIn X.K C (.ref D) = some true)
    (h : ∀ so s', Inv X ((so, ks_superObj D x C) :: pins) σ H s' → (∀ b o, s.heap.get? b = some o → s'.heap.get? b = some o) → Q (.ref so) s') :
    PySem.wpAt (model X.prog X.w) X.A (.func body X.env) (attributeBase (.Call (.Name "super" p0) [] [] p1) attr X.env whole) Q E s := by
  obtain ⟨f, oc, od, fd, osl, ar, hfu, hf, hp, har⟩ := S.fn
  obtain ⟨cda, ccl, cdd, vs, ccs, file, tf, hco, hcode, hvs, hfile⟩ := S.code
  obtain ⟨cc, cl, cld, csl, cdD, hcl, hcell, hD⟩ := S.cell
  have KX := I.kIn
  obtain ⟨oD, hD1, hD2⟩ := cls_there KX hD
  obtain ⟨mb, hb1, hb2⟩ := I.mod.blt
  refine ks_wpAt_super_base S.ks S.kc hat hfu (KX _ _ hf) rfl hp hco (KX _ _ hcode) rfl hvs hfile S.top ?_
  have hboot : bootBuiltins "super" = some (.type "super") := by kernel_rfl
  refine ks_loadName_global I.ok.kind S.ks (loadGlobal_builtin (by rw [I.ok.glob]; exact I.mod.glob.keeps I.bk) S.free (by rw [I.ok.blt]; exact hb1.keeps I.bk) ((hb2 _ (by decide)).trans hboot) ⟨rfl, ?_⟩)
  refine wpAny_loadName_free I.ok.kind S.kc hcl ⟨_, KX _ _ hcell, rfl⟩ ?_
  rw [har]
  refine ld_self (i := i) (v := .ref x) (u := .ref x) I hN hvis hσ hcd fun u r => ?_
  cases r
  refine ks_wpAny_isType_cls hD1 hD2 ⟨rfl, ?_⟩
  refine ks_wpAny_call_super hD1 hD2 J.at_ J.cls (fun c e => ?_) (looks_mroIn KX hsub) (fun h' e k => ?_)
  · have z := J.no
    unfold notCls at z
    rw [e] at z
    exact Bool.noConfusion z
  · exact h _ ⟨h', s.gens, s.drawn, s.toks, s.os⟩ (pin_new (t' := s.toks) I k (Nat.le_refl _) e (fun v z => nomatch z)) k
end

/-! ### own classes: the function of the class above, bound -/
section
variable {X : Cx} {CX : CXT} {pins : List (Addr × Obj)} {σ : L2.St} {H : Hp} {s : Shared} {D x C g so q : Addr} {nm m : Str} {k : Nat} {fd : FuncData} {ps : List Str} {sp : Sp} {ds : List Value} {dvs : List V} {E : XK}
/-- the record of a bound method at q, called -/
theorem run_met {Q : VK} {us : List Value} {vs : List V} (F : FnOk X.prog X.w X.K X.mg X.base CX k g fd ps sp) (hr : Room k X.A) (hb : Binds X.K fd ps ds) (hd : Vals dvs ds) (hx : Passes CX X E)
    (I : Inv X ((q, PySem.W.methodObj (.ref g) (.ref x)) :: pins) σ H s) (r : Vals vs us) (h : sp (.ref x :: (vs ++ dvs)) H Q E) : wpAny (model X.prog X.w) X.A (call (.ref q) us) (EP X pins σ Q) X.xe s := by
  have r2 : Vals (V.ref x :: (vs ++ dvs)) (Value.ref x :: (us ++ ds)) := .cons rfl (r.append hd)
  have hl : ((Value.ref x :: us) ++ ds).length = ps.length := by
    have e := r2.length
    rw [F.len _ _ _ _ h] at e
    exact e.symm
  have z : wpAny (model X.prog X.w) X.A (call (.ref q) us) (EP X ((q, PySem.W.methodObj (.ref g) (.ref x)) :: pins) σ Q) X.xe s := by
    refine wpAny_call (PySem.W.method_call (pin_at I) (codeAny_mono (F.run X.A X.stack s H ⟨.ref x :: us, []⟩ (.ref x :: (us ++ ds)) (.ref x :: (vs ++ dvs)) Q E hr I.env0 (hb s (.ref x :: us) I.kIn hl) r2 h) fun r s' hq => ?_))
    cases r with
    | error e => exact hx _ σ H s e s' I hq
    | ok fl =>
      cases fl with
      | ret u => exact I.after hq
      | next => exact False.elim hq
      | brk => exact False.elim hq
      | cont => exact False.elim hq
  exact thn z fun _ _ y => unpinE y
theorem sup_getm {pl : Sem Bool} {ox : Obj} {odx : Option Obj} {Q : Value × List Value → Shared → Prop} {E : Value → Shared → Prop} (S : SupF X D nm) (I : Inv X ((so, ks_superObj D x C) :: pins) σ H s) (J : PySem.W.InstAt s.heap x ox C odx)
    (hm : ks_superIn X.K C D m = some (some (.ref g))) (ht : typeIn X.K (.ref g) = some (.type "function")) (hn : (m == ("__class__" : Str)) = false)
    (h : ∀ q s', Inv X ((q, PySem.W.methodObj (.ref g) (.ref x)) :: pins) σ H s' → X.base.get? q = none → Q (.ref q, []) s') : wpAny (model X.prog X.w) X.A (getMethod (.ref so) m pl) Q E s := by
  have KX := I.kIn
  have hso := pin_at I
  cases hc : clsIn X.K C with
  | none =>
    unfold ks_superIn at hm
    rw [hc] at hm
    cases hm
  | some cd =>
    unfold ks_superIn at hm
    rw [hc] at hm
    obtain ⟨of, hof, hofc⟩ : ∃ of, s.heap.get? g = some of ∧ of.cls = .type "function" := by
      have ht' : (X.K.lookup g).map (·.cls) = some (.type "function") := ht
      cases z : X.K.lookup g with
      | none =>
        rw [z] at ht'
        cases ht'
      | some of =>
        rw [z] at ht'
        exact ⟨of, KX _ _ z, Option.some.inj ht'⟩
    refine ks_wpAny_getMethod_super hso (looks_opaque KX S.opq) (l₀ := cd.mro) (fun A Q E s k q => wpAny_bind ((looks_clsIn KX hc) A _ E s k (wpAny_pure q))) rfl KX hm hof hofc (ks_ne KX J hc) hn ?_
    exact h s.heap.objs.size ⟨s.heap.push (PySem.W.methodObj (.ref g) (.ref x)), s.gens, s.drawn, s.toks + 1, s.os⟩ (pin_new (unpin I) (fun b u e => Heap.get?_push_of_some _ e) (Nat.le_refl _) (Heap.get?_push_at rfl rfl) (fun v z => nomatch z)) (base_none I (Nat.le_refl _))
/-- super().m(e, ..) on an instance of the class at C, the i-th slot -/
def tSup (C : Addr) (i : Nat) (sp : Sp) (dvs : List V) (E : XK) (t : TA) : TE := fun σ H Q => ∃ x dx fs, σ[i]? = some (some (.ref x)) ∧ H x = some (.ins C dx fs) ∧ t σ H fun vs H1 => sp (.ref x :: (vs ++ dvs)) H1 Q E
theorem psa_super {i : Nat} {p0 p1 p2 p3 p4 : Pos} {e : Expr} {es : List Expr} {ta : TA} {b0 rest : List Stmt} {u : TS} {pl : Sem Bool} (S : SupF X D nm) (hN : X.N[i]? = some nm) (hvis : Vis X.env.scope nm) (hsub : mroIn X.K C (.ref D) = some true)
    (hm : ks_superIn X.K C D m = some (some (.ref g))) (ht : typeIn X.K (.ref g) = some (.type "function")) (fi : fnIn X.K g = true) (F : FnOk X.prog X.w X.K X.mg X.base CX k g fd ps sp) (hr : Room k X.A) (hb : Binds X.K fd ps ds) (hd : Vals dvs ds) (hx : Passes CX X E)
    (ha : PA X (e :: es) ta) (hu : PSsA X b0 rest u) (hcd : (nm == ("__classdict__" : Str)) = false := by decide) (hn : (m == ("__class__" : Str)) = false := by decide)
    (hst : starEach (e :: es) X.env = (false, eval e X.env) :: starEach es X.env := by rfl) (hpl : (backTo p3 (starEach es X.env)).any (·.1) = false := by rfl)
    (hi : interactive X.env = false := by rfl) (hs : swapsWith (.Call (.Attribute (.Call (.Name "super" p0) [] [] p1) m p2) (e :: es) [] p3) none p4.line X.env = pure false := by rfl)
    (he : eval (.Call (.Attribute (.Call (.Name "super" p0) [] [] p1) m p2) (e :: es) [] p3) X.env = (do
      let ov ← attributeBase (.Call (.Name "super" p0) [] [] p1) m X.env (eval (.Call (.Name "super" p0) [] [] p1) X.env)
      standAt p2.atName
      let (f, first) ← holding [ov] (getMethod ov m pl)
      callWith p3 f first (backTo p3 (starEach (e :: es) X.env)) []) := by rfl) :
    PSsA X b0 (.Expr (.Call (.Attribute (.Call (.Name "super" p0) [] [] p1) m p2) (e :: es) [] p3) p4 :: rest) (tSeq (tDrop (tSup C i sp dvs E ta)) u) := by
  refine ⟨fun pins s σ H Dn I h => ks_wpAt_execs_cons (ks_wpAt_Expr_any (ks_wpAt_MethodCall (pl := pl) ?_ he) hi hs)⟩
  obtain ⟨x, dx, fs, hσ, hx0, h⟩ := h
  obtain ⟨mA, O, _, _, _, _⟩ := ins_get I.hok hx0
  obtain ⟨od, J, _⟩ := O.look
  refine sup_node S I hN hvis hσ hcd hn J hsub fun so s1 I1 k1 => ?_
  obtain ⟨mA1, O1, _, _, _, _⟩ := ins_get I1.hok hx0
  obtain ⟨od1, J1, _⟩ := O1.look
  refine sup_getm S I1 J1 hm ht hn fun q s2 I2 hbq => ?_
  have hq := pin_at I2
  have hL : q ≠ X.env.locals := (I2.pin (q, PySem.W.methodObj (.ref g) (.ref x)) (List.mem_append_right _ List.mem_cons_self)).2.2.1
  refine PySem.W.callWith_M (K := X.K) (h₀ := X.base) (first := []) I2.ok.mod.kin (news_at hL hbq hq) List.mem_cons_self fi (thn (ha.run p3 _ s2 σ H _ I2 h) fun us s3 ⟨vs, H3, I3, rv, q3⟩ => ⟨⟨pin_at I3, I3.kIn⟩, ?_⟩) hst hpl
  refine thn (run_met (Q := fun _ H1 => u Dn σ H1) F hr hb hd hx I3 rv q3) fun v s4 ⟨z, H4, I4, _, q4⟩ => ?_
  exact hu.run pins s4 σ H4 Dn I4 q4
end

/-! ### own exceptions -/
section
variable {X : Cx} {pins : List (Addr × Obj)} {σ : L2.St} {H : Hp} {s : Shared} {D x C g so q : Addr} {nm m : Str}
theorem exo_inst {h : Heap} {t1 : Addr} (e : h.get? x = some ({ cls := .ref C, dict := none, data := .fields #[.ref t1, .none, .none, .none, .bool false, .none] } : Obj)) :
    PySem.W.InstAt h x ({ cls := .ref C, dict := none, data := .fields #[.ref t1, .none, .none, .none, .bool false, .none] } : Obj) C none := ⟨e, rfl, rfl, trivial⟩
abbrev veI : String := "ValueError.__init__"
theorem run_mw {us : List Value} {u : Addr} {Q : Value → Shared → Prop} {E : Value → Shared → Prop} {A : Around} (T : OexC X.K C) (I : Inv X ((u, kxs_mw veI x) :: pins) σ H s) (ex : H x = some (exo x C none)) (hz : us.length ≤ sizeLine) (h : ∀ s', Inv X pins σ H s' → Q .none s') :
    wpAny (model X.prog X.w) A (call (.ref u) us) Q E s := by
  obtain ⟨nm, q, N, bs, bm, sn, sub, ab, col, dd, k0, k1, k2, k3, k5, hC, hbm⟩ := T.cls
  obtain ⟨t1, ho⟩ := exo_at I.hok ex
  have hu := pin_at I
  have hC' := I.kIn _ _ hC
  have fin : ∀ h', (∀ b o, b ≠ x → s.heap.get? b = some o → h'.get? b = some o) → h'.get? x = some (excObj C s.heap.objs.size none .none) → Q .none { s with heap := h' } := fun h' kk hx => by
    have K2 := (unpin I).write (t' := s.toks) (x := x) (e := x) (o := exo x C none) (by rw [ex]; exact True.intro) (.inl rfl) kk ⟨_, hx⟩ (exo_ok hx)
    have eu : upd H x (exo x C none) = H := by
      funext b
      by_cases hb : b = x
      · rw [hb, upd_same, ex]
      · rw [upd_ne hb]
    rw [eu] at K2
    exact h _ K2
  obtain ⟨hh, g, d, tk, os⟩ := s
  refine wpAny_call (codeAny_of_tree ?_)
  show wpAny _ A.in1 (callAny (.ref u) ⟨us, []⟩) _ _ _
  simp only [callAny]
  refine wpAny_bind (wpAny_load hu ?_)
  simp only [kxs_mw, show (Value.type "method-wrapper" == Value.type "method" || Value.type "method-wrapper" == Value.type "builtin_function_or_method" || Value.type "method-wrapper" == Value.type "method-wrapper") = true by decide, if_true]
  refine KFB.if_so (by decide) ?_
  refine wpAny_bind (check_bound_init F.excBase_ValueError.toExcCallFacts hC' ho rfl ?_)
  refine wpAny_bind (wpAny_pure (wpAny_pure ?_))
  refine ⟨plainId_quiet F.excBase_ValueError.init.plain _, codeAny_builtin F.excBase_ValueError.initEntry ?_⟩
  exact exc_init_tree (cls := .ref C) (t0 := t1) (dv := none) (c2 := .none) (c3 := .none) (b4 := .bool false) ho hz fun h' a b _ => fin h' a b
theorem sup_getx {pl : Sem Bool} {ox : Obj} {odx : Option Obj} {Q : Value × List Value → Shared → Prop} {E : Value → Shared → Prop} (S : SupF X D nm) (I : Inv X ((so, ks_superObj D x C) :: pins) σ H s) (J : PySem.W.InstAt s.heap x ox C odx)
    (hm : ks_superIn X.K C D m = some (some (.builtin veI))) (hB : subIn X.K (.ref C) (.type "ValueError") = some true) (hn : (m == ("__class__" : Str)) = false)
    (h : ∀ q s', Inv X ((q, kxs_mw veI x) :: pins) σ H s' → Q (.ref q, []) s') : wpAny (model X.prog X.w) X.A (getMethod (.ref so) m pl) Q E s := by
  have KX := I.kIn
  have hso := pin_at I
  have hI : Looks (model X.prog X.w) s.heap (isInstance (.ref x) (.type "ValueError")) true := J.type.andThen (looks_subIn KX hB)
  cases hc : clsIn X.K C with
  | none =>
    unfold ks_superIn at hm
    rw [hc] at hm
    cases hm
  | some cd =>
    unfold ks_superIn at hm
    rw [hc] at hm
    refine kxs_getMethod kxs_ValueError hso (looks_opaque KX S.opq) (l₀ := cd.mro) (fun A Q E s k q => wpAny_bind ((looks_clsIn KX hc) A _ E s k (wpAny_pure q))) rfl KX hm hI (ks_ne KX J hc) hn ?_
    exact h s.heap.objs.size ⟨s.heap.push (kxs_mw veI x), s.gens, s.drawn, s.toks + 1, s.os⟩ (pin_new (unpin I) (fun b u e => Heap.get?_push_of_some _ e) (Nat.le_refl _) (Heap.get?_push_at rfl rfl) (fun v z => nomatch z))
/-- super().__init__(e, ..) of an own exception: nothing of it is told -/
def tSupX (C : Addr) (i : Nat) (t : TA) : TE := fun σ H Q => ∃ x, σ[i]? = some (some (.ref x)) ∧ H x = some (exo x C none) ∧ t σ H fun vs H1 => vs.length ≤ 1000 ∧ H1 x = some (exo x C none) ∧ Q .non H1
theorem psa_superx {i : Nat} {p0 p1 p2 p3 p4 : Pos} {e : Expr} {es : List Expr} {ta : TA} {b0 rest : List Stmt} {u : TS} {pl : Sem Bool} (S : SupF X D nm) (T : OexC X.K C) (hN : X.N[i]? = some nm) (hvis : Vis X.env.scope nm) (hsub : mroIn X.K C (.ref D) = some true)
    (hm : ks_superIn X.K C D m = some (some (.builtin veI))) (hB : subIn X.K (.ref C) (.type "ValueError") = some true)
    (ha : PA X (e :: es) ta) (hu : PSsA X b0 rest u) (hcd : (nm == ("__classdict__" : Str)) = false := by decide) (hn : (m == ("__class__" : Str)) = false := by decide)
    (hst : starEach (e :: es) X.env = (false, eval e X.env) :: starEach es X.env := by rfl) (hpl : (backTo p3 (starEach es X.env)).any (·.1) = false := by rfl)
    (hi : interactive X.env = false := by rfl) (hs : swapsWith (.Call (.Attribute (.Call (.Name "super" p0) [] [] p1) m p2) (e :: es) [] p3) none p4.line X.env = pure false := by rfl)
    (he : eval (.Call (.Attribute (.Call (.Name "super" p0) [] [] p1) m p2) (e :: es) [] p3) X.env = (do
      let ov ← attributeBase (.Call (.Name "super" p0) [] [] p1) m X.env (eval (.Call (.Name "super" p0) [] [] p1) X.env)
      standAt p2.atName
      let (f, first) ← holding [ov] (getMethod ov m pl)
      callWith p3 f first (backTo p3 (starEach (e :: es) X.env)) []) := by rfl) :
    PSsA X b0 (.Expr (.Call (.Attribute (.Call (.Name "super" p0) [] [] p1) m p2) (e :: es) [] p3) p4 :: rest) (tSeq (tDrop (tSupX C i ta)) u) := by
  refine ⟨fun pins s σ H Dn I h => ks_wpAt_execs_cons (ks_wpAt_Expr_any (ks_wpAt_MethodCall (pl := pl) ?_ he) hi hs)⟩
  obtain ⟨x, hσ, hx0, h⟩ := h
  obtain ⟨t1, ho⟩ := exo_at I.hok hx0
  refine sup_node S I hN hvis hσ hcd hn (exo_inst ho) hsub fun so s1 I1 k1 => ?_
  obtain ⟨t2, ho2⟩ := exo_at I1.hok hx0
  refine sup_getx S I1 (exo_inst ho2) hm hB hn fun q s2 I2 => ?_
  have es0 : starEach (e :: es) X.env = (false, eval e X.env) :: starEach es X.env := hst
  have hplain : (backTo p3 (starEach (e :: es) X.env)).any (·.1) = false := by
    rw [hst]
    show (false || (backTo p3 (starEach es X.env)).any (·.1)) = false
    rw [hpl]
    rfl
  refine kxs_callWith (i := veI) (x := x) hplain ?_
  have hev := ha.run p3 _ s2 σ H _ I2 h
  rw [hst] at hev ⊢
  refine evalArgs_plain (thn hev fun us s3 ⟨vs, H3, I3, rv, hz, hx3, q3⟩ => ⟨pin_at I3, ?_⟩)
  have hlen : us.length ≤ sizeLine := by
    rw [← Paired.length rv, sizeLine_eq]
    omega
  exact run_mw T I3 hx3 hlen fun s4 I4 => hu.run pins s4 σ H3 Dn I4 q3
end
end Sy
set_option Elab.async false
set_option linter.all false
set_option maxRecDepth 100000
set_option maxHeartbeats 4000000
namespace Sy
open PySem PySem.W PySem.Calls PySem.Spec PyProof.Rows L2 ClX

/-- the names of a def that closes over __class__ alone, without cells -/
structure FnScopeS (N P : List Str) (sc : Scope) : Prop where
  kind : sc.kind = .function
  co : sc.isCoroutine = false
  gen : sc.isGenerator = false
  nd : N.Nodup
  pre : N.take P.length = P
  par : ∀ x ∈ P, sc.names.lookup x = some .local
  nocell : ∀ y ∈ sc.names, y.2 ≠ .cell
  free : ∀ y ∈ sc.names, y.2 = .free → y.1 = ("__class__" : Str)

/-- the context of such a def's body at its entry -/
def cxS (CX : CXT) (P : Program) (w : World) (K : Frag) (mg : Str → Option Value) (base : Heap) (N : List Str) (qual : Str) (scope : Scope) (f : Addr) (cd : Value) (cc : Addr) (A : Around) (outer : List Env) (s : Shared) (H : Hp) (E : XK) : Cx where
  prog := P
  w := w
  K := K
  mg := mg
  base := base
  A := A.deeper (ksEnv qual scope s.heap.objs.size f cd cc)
  N := N
  s_0 := s
  H_0 := H
  env := ksEnv qual scope s.heap.objs.size f cd cc
  outer := outer
  stack := ksEnv qual scope s.heap.objs.size f cd cc :: outer
  ex := []
  calm := true
  fn := fun _ => false
  pn := []
  xe := fun e s' => wpAny (model P w) (A.deeper (ksEnv qual scope s.heap.objs.size f cd cc)) (leaving (ksEnv qual scope s.heap.objs.size f cd cc) e) (fun _ s'' => CX outer H s E e s'') (fun e' s'' => CX outer H s E e' s'') s'

theorem zip_rev {ps : List Str} {us : List Value} (nd : ps.Nodup) {i : Nat} {x : Str} {u : Value} (h1 : ps[i]? = some x) (h2 : us[i]? = some u) : ((ps.zip us).reverse).lookup x = some u := by
  have key : ∀ (l : List (Str × Value)), (∀ p ∈ l, p.1 = x → p.2 = u) → (x, u) ∈ l → l.lookup x = some u := by
    intro l
    induction l with
    | nil =>
      intro _ h
      cases h
    | cons p r ih =>
      intro hp hm
      obtain ⟨y, v⟩ := p
      by_cases e : x = y
      · have q := hp (y, v) List.mem_cons_self e.symm
        have q' : v = u := q
        subst e
        rw [List.lookup_cons, beq_self_eq_true, q']
      · have ne : (x == y) = false := by simpa using e
        rw [List.lookup_cons, ne]
        rcases List.mem_cons.mp hm with z | z
        · exact absurd (congrArg Prod.fst z) e
        · exact ih (fun p hh => hp p (List.mem_cons_of_mem _ hh)) z
  refine key _ (fun p hp e => ?_) ?_
  · have hp' := List.mem_reverse.mp hp
    obtain ⟨j, hj, hz⟩ := List.mem_iff_getElem.mp hp'
    have hj1 : j < ps.length := by
      rw [List.length_zip] at hj
      omega
    have hj2 : j < us.length := by
      rw [List.length_zip] at hj
      omega
    rw [List.getElem_zip] at hz
    subst hz
    have e1 : ps[j] = x := e
    have ej : j = i := nd_ix nd (x := x) (by rw [List.getElem?_eq_getElem hj1, e1]) h1
    subst ej
    rw [List.getElem?_eq_getElem hj2] at h2
    exact Option.some.inj h2
  · refine List.mem_reverse.mpr (List.mem_iff_getElem?.mpr ⟨i, ?_⟩)
    rw [List.getElem?_zip_eq_some]
    exact ⟨h1, h2⟩

section
variable {CX : CXT} {P : Program} {w : World} {K : Frag} {mg : Str → Option Value} {base : Heap} {N ps : List Str} {qual : Str} {scope : Scope} {f cc : Addr} {cd : Value} {A : Around} {outer : List Env} {s : Shared} {H : Hp} {E : XK} {us : List Value} {vs : List V}
theorem cells_one {x : Str} {c : Addr} (h : ([(("__class__" : Str), cc)] : List (Str × Addr)).lookup x = some c) : x = ("__class__" : Str) ∧ c = cc := by
  rw [List.lookup_cons] at h
  cases q : (x == ("__class__" : Str)) with
  | true =>
    rw [q] at h
    exact ⟨beq_iff_eq.mp q, (Option.some.inj h).symm⟩
  | false =>
    rw [q] at h
    cases h
theorem inv_startS {h1 : Heap} {tk : Nat} {oc : Obj} {v0 : Option Value} (S : FnScopeS N ps scope) (hcc : K.lookup cc = some oc) (hdc : oc.data = .cell v0) (hd : A.handled = none) (e0 : Env0 P w K mg base A outer s H) (hl : vs.length = ps.length) (r : Vals vs us)
    (hns : h1.Ns s.heap.objs.size (fun x => ((ps.zip us).reverse).lookup x)) (hk : ∀ b o, s.heap.get? b = some o → h1.get? b = some o) :
    Inv (cxS CX P w K mg base N qual scope f cd cc A outer s H E) [] (start N vs) H { s with heap := h1, toks := tk } := by
  have hpl : ps.length ≤ N.length := by
    have z := congrArg List.length S.pre
    rw [List.length_take] at z
    omega
  have hccb : base.get? cc = some oc := e0.mod.kin cc oc hcc
  have hcs := e0.bs cc oc hccb
  have noA : ∀ b : Addr, b ∉ (cxS CX P w K mg base N qual scope f cd cc A outer s H E).ex := fun b z => absurd (show b ∈ ([] : List Addr) from z) (by simp)
  refine ⟨⟨e0.mod, S.kind, rfl, rfl, Nat.le_refl _, fun y z c h1 h2 => ?_, fun y hy => ?_, fun y c hf _ => Bool.noConfusion hf, fun _ => hd, Around.frames_deeper e0.frames, .inr ⟨rfl, rfl⟩, fun b z => absurd z (noA b), e0.bs, e0.bsz, fun b _ _ => noA b, fun b z => absurd z (noA b), e0.funs, e0.frf⟩,
    rfl, e0.bare, Un.kept hk, ⟨_, hns, fun i y v h1 h2 h3 => ?_⟩, fun y c h => ?_, e0.hok.fresh (Nat.le_refl _), fun y c h => ?_, fun p hp => absurd (show p ∈ ([] : List (Addr × Obj)) from hp) (by simp), e0.hok.kept hk, ?_⟩
  · exact (cells_one h1).1.trans (cells_one h2).1.symm
  · have hy : scope.names.lookup y = some .cell ∨ scope.names.lookup y = some .free := hy
    rcases hy with hy | hy
    · exact absurd rfl (S.nocell _ (PySem.mem_of_lookup hy))
    · have e := S.free _ (PySem.mem_of_lookup hy) rfl
      have e' : y = ("__class__" : Str) := e
      subst e'
      exact ⟨cc, by simp [ksEnv, cxS, List.lookup_cons]⟩
  · have hi : i < vs.length := by
      unfold L2.start at h2
      by_cases hi : i < vs.length
      · exact hi
      · rw [List.getElem?_append_right (by simpa using hi)] at h2
        rw [List.getElem?_replicate] at h2
        split at h2 <;> cases h2
    have ha : vs[i]? = some v := by
      unfold L2.start at h2
      rw [List.getElem?_append_left (by simpa using hi), List.getElem?_map] at h2
      cases e : vs[i]? with
      | none =>
        rw [e] at h2
        cases h2
      | some a =>
        rw [e] at h2
        cases h2
        rfl
    obtain ⟨u, hu, rv⟩ := r.get ha
    have hp : ps[i]? = some y := by
      rw [← S.pre, List.getElem?_take_of_lt (by omega)]
      exact h1
    have ndP : ps.Nodup := by
      rw [← S.pre]
      exact S.nd.sublist (List.take_sublist _ _)
    exact ⟨u, rv, .inl ⟨S.par y (List.mem_of_getElem? hp), zip_rev ndP hp hu⟩⟩
  · obtain ⟨_, e⟩ := cells_one h
    subst e
    exact ⟨v0, oc, hk _ _ hcs.1, hdc⟩
  · obtain ⟨_, e⟩ := cells_one h
    subst e
    exact hcs.2
  · unfold L2.start
    show _ = N.length
    rw [List.length_append, List.length_map, List.length_replicate]
    omega
end
/-- THE RULE for such a def -/
theorem fn_ofS {CX : CXT} {P : Program} {w : World} {K : Frag} {mg : Str → Option Value} {base : Heap} {k : Nat} {f cc : Addr} {name qual : Str} {params : Arguments} {body : List Stmt} {scope : Scope} {dV kV doc pm cdv ct oc : Value} {an od : Option Addr}
    {osl : Array (Option Value)} {oc0 : Obj} {v0 : Option Value} {N ps : List Str} {sp : Sp} (lk : K.lookup f = some ⟨oc, od, .func (ksFn name qual params body scope dV kV doc pm an cdv ct cc), osl⟩) (hcc : K.lookup cc = some oc0) (hdc : oc0.data = .cell v0) (hcd : codeIn K cdv qual = true) (S : FnScopeS N ps scope)
    (len : ∀ vs H Q E, sp vs H Q E → vs.length = ps.length)
    (hbody : ∀ (A : Around) (outer : List Env) (s : Shared) (H : Hp) (vs : List V) (Q : VK) (E : XK), Room k (A.deeper (ksEnv qual scope s.heap.objs.size f cdv cc)) → sp vs H Q E →
      ∃ t, PSsA (cxS CX P w K mg base N qual scope f cdv cc A outer s H E) body body t ∧ t { nx := fun _ H' => Q .non H', rt := Q } (start N vs) H) :
    FnOk P w K mg base CX (k + 1) f (ksFn name qual params body scope dV kV doc pm an cdv ct cc) ps sp := by
  refine ⟨len, fun A outer s H args us vs Q E hr e0 hb r hsp => ?_⟩
  have hl := len _ _ _ _ hsp
  have KX : K.In s.heap := e0.mod.kin.keeps fun b o e => (e0.bs b o e).1
  have lim : s.heap.NoLimit := e0.mod.nolimit.keeps fun b o e => (e0.bs b o e).1
  refine ks_codeAny_call_defAt (fd := ksFn name qual params body scope dV kV doc pm an cdv ct cc) (body := body) (binds := ps.zip us) hr.depth (KX _ _ lk) rfl lim (codeRec_of KX hcd) rfl hb S.nocell
    (fun y hy => S.par y.1 (List.of_mem_zip (show (y.1, y.2) ∈ ps.zip us from hy)).1) (fun h1 hns hk => ?_) S.co S.gen S.kind
  obtain ⟨t, ht, hq⟩ := hbody A outer s H vs Q E (hr.deeper _) hsp
  have I : Inv (cxS CX P w K mg base N qual scope f cdv cc A outer s H E) [] (start N vs) H { s with heap := h1, toks := s.toks + (ps.zip us).length } := inv_startS S hcc hdc hr.hd e0 hl r hns hk
  refine ks_wpAt_mono (ht.run [] _ (start N vs) H _ I hq) (fun fl s' hs => ?_) fun e s' hs => hs
  have fin : ∀ {σ' : L2.St} {H' : Hp} {v : V} {u : Value}, Inv (cxS CX P w K mg base N qual scope f cdv cc A outer s H E) [] σ' H' s' → RelV v u → Q v H' → CE outer P w H s Q u s' :=
    fun {σ' H' v u} J rv q => ⟨v, H', J.os, J.bare, J.base, J.hok, rv, q⟩
  cases fl with
  | ret u =>
    obtain ⟨v, σ', H', J, rv, q⟩ := hs
    exact fin J rv q
  | next =>
    obtain ⟨σ', H', J, q⟩ := hs
    exact fin (v := V.non) (u := Value.none) J rfl q
  | brk =>
    obtain ⟨_, _, _, q⟩ := hs
    exact False.elim q
  | cont =>
    obtain ⟨_, _, _, q⟩ := hs
    exact False.elim q
end Sy
set_option Elab.async false
set_option linter.all false
set_option maxRecDepth 100000
set_option maxHeartbeats 4000000
/-! try .. except X as n: .. except Y: ..: several clauses, with names and without. -/
namespace Sy
open PySem PySem.Spec PyProof.Rows L2
abbrev Hd : Type := Value × Option Nat × (Addr → Value → Option Addr → TS)
abbrev outN (D : Ends) (i : Nat) : Ends :=
  { nx := fun σ H => D.nx (σ.set i none) H, rt := D.rt, bk := fun σ H => D.bk (σ.set i none) H, ct := fun σ H => D.ct (σ.set i none) H }
/-- what the clauses wish of an exception of the body -/
def wHs (K : PySem.W.Frag) (Wout : WX) (D : Ends) : List Hd → WX
  | [] => Wout
  | (c, o, ts) :: r => fun cls d σ H => ∃ b, PySem.W.exmOne K cls c = some b ∧
      (b = true → ∀ a, H a = none → match o with
        | none => ts a cls d D σ H
        | some i => ts a cls d (outN D i) (σ.set i (some (.ref a))) H) ∧
      (b = false → wHs K Wout D r cls d σ H)
inductive HdsN (X : Cx) : List ExceptHandler → List Hd → Prop
  | nil : HdsN X [] []
  | one {x : Str} {c : Value} {ts : Addr → Value → Option Addr → TS} {b₀ : Stmt} {sts : List Stmt} {np p : Pos} {hs : List ExceptHandler} {l : List Hd} (hc : Names X x c)
      (su : ∀ (a : Addr) (oe : Obj) (cls : Value) (d : Option Addr) (pn : List (Addr × Obj)), Zc cls d oe → (∃ vs, oe.data = .fields vs) → PSs (X.suite a ((a, oe) :: pn)) (b₀ :: sts) (ts a cls d)) (r : HdsN X hs l) :
      HdsN X (.ExceptHandler (some (.Name x np)) none (b₀ :: sts) p :: hs) ((c, none, ts) :: l)
  | as {x n : Str} {i : Nat} {c : Value} {ts : Addr → Value → Option Addr → TS} {b₀ : Stmt} {sts : List Stmt} {np p : Pos} {hs : List ExceptHandler} {l : List Hd} (hN : X.N.Nodup) (hi : X.N[i]? = some n) (hln : X.env.kindOf n = some .local) (hc : Names X x c)
      (su : ∀ (a : Addr) (oe : Obj) (cls : Value) (d : Option Addr) (pn : List (Addr × Obj)), Zc cls d oe → (∃ vs, oe.data = .fields vs) → PSs (X.suite a ((a, oe) :: pn)) (b₀ :: sts) (ts a cls d)) (r : HdsN X hs l) :
      HdsN X (.ExceptHandler (some (.Name x np)) (some n) (b₀ :: sts) p :: hs) ((c, some i, ts) :: l)
section
variable {X : Cx} {body : List Stmt} {h0 : ExceptHandler} {hs : List ExceptHandler} {l : List Hd} {pos : Pos} {tb : WX → TS} {Wout : WX}
theorem nofr {a : Addr} {B h : Heap} {env : Env} {outer : List Env} {o : Obj} {vs : Array Value} (ff : h.FunFrames B (env :: outer)) (e : h.get? a = some o) (dd : o.data = .fields vs) : a ∉ frs (env :: outer) := fun hm => by
  obtain ⟨_, o2, e2, nf⟩ := ff.mem hm
  rw [e] at e2
  cases e2
  exact nf _ dd
theorem ps_tryN (hst : X.stack = X.env :: X.outer) (hf : X.env.frame = some X.env.locals) (tk : Takes X Wout)
    (hb : ∀ (W : WX) (pn : List (Addr × Obj)) (xe : Value → Shared → Prop), Takes (X.tr pn xe) W → PassesOwn (model X.prog X.w) X.A X.env xe → PSs (X.tr pn xe) body (tb W))
    (hh : HdsN X (h0 :: hs) l) : PS X (.Try body (h0 :: hs) [] [] pos) (fun D σ H => tb (wHs X.K Wout D l) D σ H) := by
  refine ⟨fun pins s σ H D I h => ?_⟩
  have ok := I.ok
  have hfr : X.A.frames = some (X.env :: X.outer) := by
    rw [ok.frames, hst]
  refine wpAny_Try_except ?_
  have main := hb (wHs X.K Wout D l) (X.pn ++ pins) (fun e s₁ => wpAny (model X.prog X.w) X.A (noteFrame e X.env) (fun _ s₂ => wpAny (model X.prog X.w) X.A (setFlight e none) (fun _ s₃ => wpAny (model X.prog X.w) X.A (handleBy e X.env (h0 :: hs)) (SP X pins D) X.xe s₃) X.xe s₂) X.xe s₁)
  refine wpAny_mono ((main (fun u s' xx => ?_) PassesOwn.looking).run [] s σ H D (I.toTry _) h) (fun f s1 hsp => ?_) (fun e s1 he => he)
  · obtain ⟨a, B, sI, pins2, σ2, H2, cls, d, rfl, J2, nb, up, sky, na, os, ag, w⟩ := xx
    have J : Inv X pins σ2 H2 sI := J2.ofTry ok
    have sky2 : Sky B (X.env :: X.outer) a (Zc cls d) X.env.locals s'.heap := by
      rw [← hst]
      exact sky
    show wpAny (model X.prog X.w) X.A (noteFrame (.ref a) X.env) _ _ _
    refine Sky.land Zc.steady hfr hf sky2 fun h3 fl3 up3 => ?_
    have J3 : Inv X pins σ2 H2 { s' with heap := h3 } := J.landed nb fl3.1 (up.trans up3) os ag
    obtain ⟨oe3, vs3, he3, hz3, hd3⟩ := fl3.there
    have nfr := nofr fl3.2.2.1 he3 hd3
    have nL : a ≠ X.env.locals := fun z => nfr (List.mem_filterMap.mpr ⟨X.env, List.mem_cons_self, by rw [hf, z]⟩)
    have nF : a ∉ X.fs := fun hm => by
      obtain ⟨e, he, q⟩ := List.mem_filterMap.mp hm
      exact nfr (List.mem_filterMap.mpr ⟨e, List.mem_cons_of_mem _ he, q⟩)
    have S3 := J3.suite he3 hd3 na nL nF
    have LT : PySem.W.Looks (model X.prog X.w) h3 (typeOf (.ref a)) cls := fun A Q E s k q => wpAny_typeOf_ref (k _ _ he3) (by rw [hz3.1]; exact q)
    have test : ∀ {x : Str} {c : Value} {np : Pos} {Q : Value → Shared → Prop} {E : Value → Shared → Prop}, Names X x c → Q c { s' with heap := h3 } →
        wpAny (model X.prog X.w) (X.A.mark (some (.ref a))) (eval (.Name x np) X.env) Q E { s' with heap := h3 } := fun {x c np Q E} hc q => by
      obtain ⟨hg, hdbg, hm | ⟨hm, hv, hnn⟩⟩ := hc
      · exact ld_glob (X := X.suite a ((a, oe3) :: (X.pn ++ pins))) S3 hg hm q hdbg
      · exact ld_blt (X := X.suite a ((a, oe3) :: (X.pn ++ pins))) S3 hg hm hv q hnn hdbg
    have go : ∀ {hs2 : List ExceptHandler} {l2 : List Hd}, HdsN X hs2 l2 → wHs X.K Wout D l2 cls d σ2 H2 →
        wpAny (model X.prog X.w) X.A (handleBy (.ref a) X.env hs2) (SP X pins D) X.xe { s' with heap := h3 } := by
      intro hs2 l2 hk
      induction hk with
      | nil =>
        intro w
        refine wpAny_handleBy_nil ?_
        obtain ⟨k1, k2, k3, oe, vs, T, oT, ts2, he, hz, hd, h1, hr⟩ := id fl3
        unfold PySem.passOn
        refine wpAny_bind (wpAny_field he hd h1 ?_)
        rw [if_neg (show ¬ ((Value.ref T == Value.none) = true) by simp)]
        have fin : wpAny (model X.prog X.w) X.A (setFlight (.ref a) X.env.frame) (fun _ s4 => wpAny (model X.prog X.w) X.A (throw (.ref a) : Sem Flow) (SP X pins D) X.xe s4) X.xe { s' with heap := h3 } := by
          rw [hf]
          refine HandSPX.setFlight_upZ fl3 fun h4 hh4 up4 => wpAny_throw (tk _ _ ?_)
          exact ⟨a, B, sI, pins, σ2, H2, cls, d, rfl, J, nb, (up.trans up3).trans up4, .inr (.inr (by rw [hst]; exact hh4)), na, os, ag, w⟩
        first
          | exact wpAny_bind (wpAny_pure (wpAny_bind fin))
          | exact wpAny_bind fin
      | @one x c ts b0 sts np p hs3 l3 hc su r ih =>
        intro w
        obtain ⟨b, hb1, hyes, hno⟩ := w
        refine wpAny_handleBy_cons (codeAny_handlers_test ?_) (by intro q; cases q)
        refine test hc ((PySem.W.exm_one (M := model X.prog X.w) J3.kIn LT hb1).here ?_)
        cases b with
        | true =>
          refine codeAny_handlers_suite ?_
          refine HandSPX.lands_againZ fl3 fun h4 fl4 up4 => ?_
          have J4 : Inv X pins σ2 H2 { s' with heap := h4 } := J.landed nb fl4.1 ((up.trans up3).trans up4) os ag
          obtain ⟨oe4, vs4, he4, hz4, hd4⟩ := fl4.there
          have S4 := J4.suite he4 hd4 na nL nF
          refine wpAny_mono ((su a oe4 cls d (X.pn ++ pins) hz4 ⟨_, hd4⟩).run [] _ _ H2 _ S4 (hyes rfl a na)) (fun f s6 hsp => ?_) (fun _ _ z => False.elim z)
          cases f with
          | next =>
            obtain ⟨σ6, H6, S6, q6⟩ := hsp
            exact ⟨_, _, S6.unsuite ok, q6⟩
          | brk =>
            obtain ⟨σ6, H6, S6, q6⟩ := hsp
            exact ⟨_, _, S6.unsuite ok, q6⟩
          | cont =>
            obtain ⟨σ6, H6, S6, q6⟩ := hsp
            exact ⟨_, _, S6.unsuite ok, q6⟩
          | ret u =>
            obtain ⟨v6, σ6, H6, S6, r6, q6⟩ := hsp
            exact ⟨_, _, _, S6.unsuite ok, r6, q6⟩
        | false =>
          show wpAny _ X.A (handleBy (.ref a) X.env hs3) _ _ _
          exact ih (hno rfl)
      | @as x n i c ts b0 sts np p hs3 l3 hN hi hln hc su r ih =>
        intro w
        obtain ⟨b, hb1, hyes, hno⟩ := w
        refine wpAny_handleBy_cons (codeAny_handlers_test ?_) (by intro q; cases q)
        refine test hc ((PySem.W.exm_one (M := model X.prog X.w) J3.kIn LT hb1).here ?_)
        cases b with
        | true =>
          refine codeAny_handlers_suite_as ?_
          refine HandSPX.lands_againZ fl3 fun h4 fl4 up4 => ?_
          have J4 : Inv X pins σ2 H2 { s' with heap := h4 } := J.landed nb fl4.1 ((up.trans up3).trans up4) os ag
          obtain ⟨oe4, vs4, he4, hz4, hd4⟩ := fl4.there
          have S4 := J4.suite he4 hd4 na nL nF
          refine store_ok (X := X.suite a ((a, oe4) :: (X.pn ++ pins))) (v := .ref a) S4 hN hi (.inl hln) rfl (fun s5 S5 => ?_) (.inr hln)
          refine wpAny_mono ((su a oe4 cls d (X.pn ++ pins) hz4 ⟨_, hd4⟩).run [] s5 _ H2 _ S5 (hyes rfl a na)) (fun f s6 hsp => ?_) (fun _ _ z => False.elim z)
          have fin : ∀ {σ6 : L2.St} {H6 : Hp} {Q : Shared → Prop}, Inv (X.suite a ((a, oe4) :: (X.pn ++ pins))) [] σ6 H6 s6 → (∀ s7, Inv X pins (σ6.set i none) H6 s7 → Q s7) →
              wpAny (model X.prog X.w) X.A (do bindName X.env n .none; unbindBehindTheSuite X.env n p) (fun _ s7 => Q s7) X.xe s6 := fun {σ6 H6 Q} S6 hq => gone_ok (S6.unsuite ok) hN hi hln hq
          cases f with
          | next =>
            obtain ⟨σ6, H6, S6, q6⟩ := hsp
            exact fin S6 fun s7 J7 => ⟨_, _, J7, q6⟩
          | brk =>
            obtain ⟨σ6, H6, S6, q6⟩ := hsp
            exact fin S6 fun s7 J7 => ⟨_, _, J7, q6⟩
          | cont =>
            obtain ⟨σ6, H6, S6, q6⟩ := hsp
            exact fin S6 fun s7 J7 => ⟨_, _, J7, q6⟩
          | ret u =>
            obtain ⟨v6, σ6, H6, S6, r6, q6⟩ := hsp
            exact fin S6 fun s7 J7 => ⟨_, _, _, J7, r6, q6⟩
        | false =>
          show wpAny _ X.A (handleBy (.ref a) X.env hs3) _ _ _
          exact ih (hno rfl)
    exact go hh w
  · cases f with
    | next =>
      obtain ⟨σ2, H2, J2, q⟩ := hsp
      exact wpAny_execs_nil ⟨σ2, H2, J2.ofTry ok, q⟩
    | brk =>
      obtain ⟨σ2, H2, J2, q⟩ := hsp
      exact ⟨σ2, H2, J2.ofTry ok, q⟩
    | cont =>
      obtain ⟨σ2, H2, J2, q⟩ := hsp
      exact ⟨σ2, H2, J2.ofTry ok, q⟩
    | ret u =>
      obtain ⟨v, σ2, H2, J2, r, q⟩ := hsp
      exact ⟨v, σ2, H2, J2.ofTry ok, r, q⟩
end
end Sy
set_option Elab.async false
set_option linter.all false
set_option maxRecDepth 100000
set_option maxHeartbeats 4000000
/-! Data over the hand layer: what a value stands for, and states of data slots. -/
namespace L3
open PySem PySem.Spec PyProof.Rows L2

/-- data: ref is a value kept as it is (a class, a def) -/
inductive D where
  | non | bl (b : Bool) | int (i : Int) | str (s : Str)
  | lst (xs : List D) | tup (xs : List D) | obj (C : Addr) (fs : List (Str × D))
  | scr (ns : List Int) | ref (a : Addr) | ty (n : String)
  | exn (a C dd : Addr) (f : Str) (x : D)

abbrev Fz := Addr → Prop
/-- the script (known to the object, or of the module) -/
def ScrAt (K : PySem.W.Frag) (H : Hp) (a : Addr) (ns : List Int) : Prop := (∃ o, H a = some (.frz o (.lst (ns.map V.int)))) ∨
  ∃ (o : Obj) (its : Array Value) (n : Nat), K.lookup a = some o ∧ o.cls = .type "list" ∧ o.dict = none ∧ o.data = .seq its n ∧ its.size ≤ sizeLine ∧ Vals (ns.map V.int) its.toList
theorem ScrAt.sq {K : PySem.W.Frag} {H : Hp} {a : Addr} {ns : List Int} (h : ScrAt K H a ns) : SqL K H a (ns.map V.int) := by
  rcases h with ⟨o, h⟩ | h
  · exact .inl (.inr ⟨o, h⟩)
  · exact .inr h
theorem ScrAt.of {K : PySem.W.Frag} {H : Hp} {a : Addr} {ns : List Int} (hO : Only H) (h : SqL K H a (ns.map V.int)) : ScrAt K H a ns := by
  rcases h with (h | ⟨o, h⟩) | h
  · rcases hO a with z | ⟨o, xs, z⟩
    · rw [z] at h
      cases h
    · rw [z] at h
      cases h
  · exact .inl ⟨o, h⟩
  · exact .inr h
mutual
/-- the value v stands for the data d: lists and instances in F stay as they are -/
inductive DV (K : PySem.W.Frag) (F : Fz) (H : Hp) : V → D → Prop
  | non : DV K F H .non .non
  | bl (b : Bool) : DV K F H (.bl b) (.bl b)
  | int (i : Int) : DV K F H (.int i) (.int i)
  | str (s : Str) : DV K F H (.str s) (.str s)
  | lst {a : Addr} {vs : List V} {ds : List D} : F a → H a = some (.lst vs) → DVs K F H vs ds → DV K F H (.ref a) (.lst ds)
  | tup {a : Addr} {vs : List V} {ds : List D} : SqT K H a vs → DVs K F H vs ds → DV K F H (.ref a) (.tup ds)
  | obj {a C dx : Addr} {gs : List (Str × V)} {fs : List (Str × D)} : F a → H a = some (.ins C dx gs) → DFs K F H gs fs → DV K F H (.ref a) (.obj C fs)
  | scr {a : Addr} {ns : List Int} : ScrAt K H a ns → DV K F H (.ref a) (.scr ns)
  | ref (a : Addr) : DV K F H (.ref a) (.ref a)
  | ty (n : String) : DV K F H (.ty n) (.ty n)
  | exn {a C dd : Addr} {f : Str} {v : V} {x : D} : F dd → H dd = some (.xd [(f, v)]) → DV K F H v x → DV K F H (.ref a) (.exn a C dd f x)
inductive DVs (K : PySem.W.Frag) (F : Fz) (H : Hp) : List V → List D → Prop
  | nil : DVs K F H [] []
  | cons {v : V} {vs : List V} {d : D} {ds : List D} : DV K F H v d → DVs K F H vs ds → DVs K F H (v :: vs) (d :: ds)
inductive DFs (K : PySem.W.Frag) (F : Fz) (H : Hp) : List (Str × V) → List (Str × D) → Prop
  | nil : DFs K F H [] []
  | cons {f : Str} {v : V} {vs : List (Str × V)} {d : D} {ds : List (Str × D)} : DV K F H v d → DFs K F H vs ds → DFs K F H ((f, v) :: vs) ((f, d) :: ds)
end

/-- from one state to a later one: what is frozen stays, tuples stay -/
structure Le (F : Fz) (H : Hp) (F' : Fz) (H' : Hp) : Prop where
  sub : ∀ a, F a → F' a
  keep : ∀ a o, F a → H a = some o → H' a = some o
  tup : ∀ a xs, H a = some (.tup xs) → H' a = some (.tup xs)
  frz : ∀ a o u, H a = some (.frz o u) → H' a = some (.frz o u)
/-- .. all objects stay, what is frozen anew is new -/
structure Gr (F : Fz) (H : Hp) (F' : Fz) (H' : Hp) : Prop where
  sub : ∀ a, F a → F' a
  keep : ∀ a o, H a = some o → H' a = some o
  new : ∀ a, F' a → F a ∨ H a = none
  dom : ∀ a, F' a → ∃ o, H' a = some o
theorem Gr.le {F F' : Fz} {H H' : Hp} (g : Gr F H F' H') : Le F H F' H' := ⟨g.sub, fun a o _ e => g.keep a o e, fun a xs e => g.keep a _ e, fun a o u e => g.keep a _ e⟩
theorem Le.refl (F : Fz) (H : Hp) : Le F H F H := ⟨fun _ h => h, fun _ _ _ e => e, fun _ _ e => e, fun _ _ _ e => e⟩
theorem Le.trans {F F1 F2 : Fz} {H H1 H2 : Hp} (a : Le F H F1 H1) (b : Le F1 H1 F2 H2) : Le F H F2 H2 :=
  ⟨fun x h => b.sub x (a.sub x h), fun x o h e => b.keep x o (a.sub x h) (a.keep x o h e), fun x xs e => b.tup x xs (a.tup x xs e), fun x o u e => b.frz x o u (a.frz x o u e)⟩
theorem Gr.refl {F : Fz} {H : Hp} (d : ∀ a, F a → ∃ o, H a = some o) : Gr F H F H := ⟨fun _ h => h, fun _ _ e => e, fun _ h => .inl h, d⟩
theorem Gr.back {F F' : Fz} {H H' : Hp} (g : Gr F H F' H') {a : Addr} (h : H' a = none) : H a = none := by
  cases e : H a with
  | none => rfl
  | some o =>
    rw [g.keep a o e] at h
    cases h
theorem Gr.trans {F F1 F2 : Fz} {H H1 H2 : Hp} (a : Gr F H F1 H1) (b : Gr F1 H1 F2 H2) : Gr F H F2 H2 :=
  ⟨fun x h => b.sub x (a.sub x h), fun x o e => b.keep x o (a.keep x o e), fun x h => by
    rcases b.new x h with h | h
    · exact a.new x h
    · exact .inr (a.back h), b.dom⟩
theorem Gr.upd {F F' : Fz} {H H' : Hp} (g : Gr F H F' H') {p : Addr} {o : HO} (h : H' p = none) : Gr F H F' (upd H' p o) :=
  ⟨g.sub, fun a u e => by rw [upd_ne (ne_of_none (g.keep a u e) h)]; exact g.keep a u e, g.new, fun a ha => by
    obtain ⟨u, e⟩ := g.dom a ha
    exact ⟨u, by rw [upd_ne (ne_of_none e h)]; exact e⟩⟩
/-- one more is frozen -/
def add (F : Fz) (p : Addr) : Fz := fun a => F a ∨ a = p
theorem Gr.add {F F' : Fz} {H H' : Hp} (g : Gr F H F' H') {p : Addr} {o : HO} (h : H p = none) (e : H' p = some o) : Gr F H (add F' p) H' :=
  ⟨fun a ha => .inl (g.sub a ha), g.keep, fun a ha => by
    rcases ha with ha | rfl
    · exact g.new a ha
    · exact .inr h, fun a ha => by
    rcases ha with ha | rfl
    · exact g.dom a ha
    · exact ⟨o, e⟩⟩

section
variable {K : PySem.W.Frag} {F F' : Fz} {H H' : Hp}
theorem sqt_le {a : Addr} {xs : List V} (l : Le F H F' H') (h : SqT K H a xs) : SqT K H' a xs := by
  rcases h with (h | ⟨o, h⟩) | h
  · exact .inl (.inl (l.tup _ _ h))
  · exact .inl (.inr ⟨o, l.frz _ _ _ h⟩)
  · exact .inr h
mutual
theorem DV.le (l : Le F H F' H') : ∀ (d : D) (v : V), DV K F H v d → DV K F' H' v d
  | .non, _, h => by cases h; exact .non
  | .bl _, _, h => by cases h; exact .bl _
  | .int _, _, h => by cases h; exact .int _
  | .str _, _, h => by cases h; exact .str _
  | .lst ds, _, h => by
    cases h with
    | lst h1 h2 h3 => exact .lst (l.sub _ h1) (l.keep _ _ h1 h2) (DVs.le l ds _ h3)
  | .tup ds, _, h => by
    cases h with
    | tup h1 h2 => exact .tup (sqt_le l h1) (DVs.le l ds _ h2)
  | .obj C fs, _, h => by
    cases h with
    | obj h1 h2 h3 => exact .obj (l.sub _ h1) (l.keep _ _ h1 h2) (DFs.le l fs _ h3)
  | .scr ns, _, h => by
    cases h with
    | scr h1 =>
      rcases h1 with ⟨o, h1⟩ | h1
      · exact .scr (.inl ⟨o, l.frz _ _ _ h1⟩)
      · exact .scr (.inr h1)
  | .ref _, _, h => by cases h; exact .ref _
  | .ty _, _, h => by cases h; exact .ty _
  | .exn _ _ _ _ x, _, h => by
    cases h with
    | exn h1 h2 h3 => exact .exn (l.sub _ h1) (l.keep _ _ h1 h2) (DV.le l x _ h3)
theorem DVs.le (l : Le F H F' H') : ∀ (ds : List D) (vs : List V), DVs K F H vs ds → DVs K F' H' vs ds
  | [], _, h => by cases h; exact .nil
  | d :: ds, _, h => by
    cases h with
    | cons h1 h2 => exact .cons (DV.le l d _ h1) (DVs.le l ds _ h2)
theorem DFs.le (l : Le F H F' H') : ∀ (ds : List (Str × D)) (vs : List (Str × V)), DFs K F H vs ds → DFs K F' H' vs ds
  | [], _, h => by cases h; exact .nil
  | (f, d) :: ds, _, h => by
    cases h with
    | cons h1 h2 => exact .cons (DV.le l d _ h1) (DFs.le l ds _ h2)
end
theorem DVs.length : ∀ {vs : List V} {ds : List D}, DVs K F H vs ds → vs.length = ds.length
  | [], [], _ => rfl
  | [], _ :: _, h => by cases h
  | _ :: _, [], h => by cases h
  | v :: vs, d :: ds, h => by
    cases h with
    | cons _ h2 => exact congrArg Nat.succ (DVs.length h2)
theorem DVs.get : ∀ {vs : List V} {ds : List D} {i : Nat} {d : D}, DVs K F H vs ds → ds[i]? = some d → ∃ v, vs[i]? = some v ∧ DV K F H v d
  | [], [], _, _, _, e => by simp at e
  | [], _ :: _, _, _, h, _ => by cases h
  | _ :: _, [], _, _, h, _ => by cases h
  | v :: vs, d :: ds, 0, x, h, e => by
    cases h with
    | cons h1 _ =>
      have e2 : d = x := by simpa using e
      subst e2
      exact ⟨v, rfl, h1⟩
  | v :: vs, d :: ds, i + 1, x, h, e => by
    cases h with
    | cons _ h2 =>
      obtain ⟨u, e1, e2⟩ := DVs.get (i := i) h2 (by simpa using e)
      exact ⟨u, by simpa using e1, e2⟩
theorem DVs.getV {vs : List V} {ds : List D} {i : Nat} {v : V} (h : DVs K F H vs ds) (e : vs[i]? = some v) : ∃ d, ds[i]? = some d ∧ DV K F H v d := by
  have hi : i < vs.length := (List.getElem?_eq_some_iff.mp e).1
  have hi2 : i < ds.length := by rw [← h.length]; exact hi
  obtain ⟨u, e1, e2⟩ := h.get (i := i) (d := ds[i]) (by simp [hi2])
  rw [e] at e1
  cases e1
  exact ⟨_, by simp [hi2], e2⟩
theorem DVs.append : ∀ {vs us : List V} {ds es : List D}, DVs K F H vs ds → DVs K F H us es → DVs K F H (vs ++ us) (ds ++ es)
  | [], _, [], _, _, h => h
  | [], _, _ :: _, _, h, _ => by cases h
  | _ :: _, _, [], _, h, _ => by cases h
  | v :: vs, us, d :: ds, es, h, h' => by
    cases h with
    | cons h1 h2 => exact .cons h1 (DVs.append h2 h')
theorem DVs.one {v : V} {d : D} (h : DV K F H v d) : DVs K F H [v] [d] := .cons h .nil
theorem DVs.set : ∀ {vs : List V} {ds : List D} {v : V} {d : D} (i : Nat), DVs K F H vs ds → DV K F H v d → DVs K F H (vs.set i v) (ds.set i d)
  | [], [], _, _, _, _, _ => .nil
  | [], _ :: _, _, _, _, h, _ => by cases h
  | _ :: _, [], _, _, _, h, _ => by cases h
  | v :: vs, d :: ds, _, _, 0, h, q => by
    cases h with
    | cons _ h2 => exact .cons q h2
  | v :: vs, d :: ds, _, _, i + 1, h, q => by
    cases h with
    | cons h1 h2 => exact .cons h1 (DVs.set i h2 q)
theorem DVs.take : ∀ {vs : List V} {ds : List D} (n : Nat), DVs K F H vs ds → DVs K F H (vs.take n) (ds.take n)
  | _, _, 0, _ => .nil
  | [], [], _ + 1, _ => .nil
  | [], _ :: _, _ + 1, h => by cases h
  | _ :: _, [], _ + 1, h => by cases h
  | v :: vs, d :: ds, n + 1, h => by
    cases h with
    | cons h1 h2 => exact .cons h1 (DVs.take n h2)
theorem DVs.drop : ∀ {vs : List V} {ds : List D} (n : Nat), DVs K F H vs ds → DVs K F H (vs.drop n) (ds.drop n)
  | _, _, 0, h => h
  | [], [], _ + 1, _ => .nil
  | [], _ :: _, _ + 1, h => by cases h
  | _ :: _, [], _ + 1, h => by cases h
  | v :: vs, d :: ds, n + 1, h => by
    cases h with
    | cons h1 h2 => exact DVs.drop n h2
theorem DVs.ints : ∀ (ns : List Int), DVs K F H (ns.map V.int) (ns.map D.int)
  | [] => .nil
  | n :: ns => .cons (.int n) (DVs.ints ns)
theorem DVs.of_ints : ∀ {ns : List Int} {vs : List V}, DVs K F H vs (ns.map D.int) → vs = ns.map V.int
  | [], [], _ => rfl
  | [], _ :: _, h => by cases h
  | _ :: _, [], h => by cases h
  | n :: ns, v :: vs, h => by
    cases h with
    | cons h1 h2 =>
      cases h1
      rw [DVs.of_ints h2]
      rfl
theorem DVs.of_bools : ∀ {bs : List Bool} {vs : List V}, DVs K F H vs (bs.map D.bl) → vs = bs.map V.bl
  | [], [], _ => rfl
  | [], _ :: _, h => by cases h
  | _ :: _, [], h => by cases h
  | n :: ns, v :: vs, h => by
    cases h with
    | cons h1 h2 =>
      cases h1
      rw [DVs.of_bools h2]
      rfl

/-! ### data without lists and instances -/
mutual
def D.pure : D → Bool
  | .tup xs => D.pures xs
  | .lst _ => false
  | .obj _ _ => false
  | .exn _ _ _ _ _ => false
  | _ => true
def D.pures : List D → Bool
  | [] => true
  | d :: ds => D.pure d && D.pures ds
end
mutual
theorem DV.any {F2 : Fz} : ∀ (d : D) (v : V), d.pure = true → DV K F H v d → DV K F2 H v d
  | .non, _, _, h => by cases h; exact .non
  | .bl _, _, _, h => by cases h; exact .bl _
  | .int _, _, _, h => by cases h; exact .int _
  | .str _, _, _, h => by cases h; exact .str _
  | .lst ds, _, p, _ => by simp [D.pure] at p
  | .tup ds, _, p, h => by
    cases h with
    | tup h1 h2 => exact .tup h1 (DVs.any ds _ (by simpa [D.pure] using p) h2)
  | .obj C fs, _, p, _ => by simp [D.pure] at p
  | .scr ns, _, _, h => by
    cases h with
    | scr h1 => exact .scr h1
  | .ref _, _, _, h => by cases h; exact .ref _
  | .ty _, _, _, h => by cases h; exact .ty _
  | .exn _ _ _ _ _, _, p, _ => by simp [D.pure] at p
theorem DVs.any {F2 : Fz} : ∀ (ds : List D) (vs : List V), D.pures ds = true → DVs K F H vs ds → DVs K F2 H vs ds
  | [], _, _, h => by cases h; exact .nil
  | d :: ds, _, p, h => by
    cases h with
    | cons h1 h2 =>
      have p2 : (D.pure d && D.pures ds) = true := by simpa [D.pures] using p
      obtain ⟨p3, p4⟩ := Bool.and_eq_true_iff.mp p2
      exact .cons (DV.any d _ p3 h1) (DVs.any ds _ p4 h2)
end
theorem pures_all (ds : List D) : D.pures ds = ds.all D.pure := by
  induction ds with
  | nil => rfl
  | cons d ds ih =>
    show (D.pure d && D.pures ds) = _
    rw [ih]
    rfl
theorem pures_map {α : Type} (f : α → D) (h : ∀ a, (f a).pure = true) (l : List α) : D.pures (l.map f) = true := by
  rw [pures_all, List.all_map, List.all_eq_true]
  intro a _
  exact h a
end
end L3
set_option Elab.async false
set_option linter.all false
set_option maxRecDepth 100000
set_option maxHeartbeats 4000000
/-! Slots of data, states. -/
namespace L3
open PySem PySem.Spec PyProof.Rows L2

/-- what an object of one's own holds -/
inductive Cn where
  | lst (xs : List D) | set (w : World) (a : Addr) (xs : List Int) | dk (kvs : List (Key × D)) | dt (kvs : List (List Key × D)) | ins (C : Addr) (fs : List (Str × D))
/-- an own tree: lists of one's own, tuples that hold them, data -/
inductive Tr where
  | d (x : D) | l (ts : List Tr) | t (ts : List Tr)
/-- a slot: nothing known; data; an own object; an own list of own lists; an own tree -/
inductive Sl where
  | un | d (x : D) | ow (o : Option Addr) (c : Cn) | ll (rows : List (List D)) | tr (t : Tr) | hole (r1 : List (List D)) (b : Addr) (r2 : List (List D))
abbrev Sl.own (c : Cn) : Sl := .ow none c
abbrev Env3 := List Sl

section
variable (K : PySem.W.Frag) (F : Fz) (H : Hp)
def CnR : Cn → HO → Prop
  | .lst ds, o => ∃ vs, o = .lst vs ∧ DVs K F H vs ds
  | .set w a xs, o => o = SetO w a (fun i => decide (i ∈ xs)) xs.length ∧ xs.Nodup
  | .dk kvs, o => ∃ gs, o = .dK gs ∧ Paired (fun (p : Key × V) (q : Key × D) => p.1 = q.1 ∧ DV K F H p.2 q.2) gs kvs
  | .dt kvs, o => ∃ gs, o = .dT gs ∧ Paired (fun (p : List Key × V) (q : List Key × D) => p.1 = q.1 ∧ DV K F H p.2 q.2) gs kvs
  | .ins C fs, o => ∃ dx gs, o = .ins C dx gs ∧ DFs K F H gs fs
inductive Rows (H0 : Hp) : List Addr → List (List D) → Prop
  | nil : Rows H0 [] []
  | cons {a : Addr} {vs : List V} {ds : List D} {as : List Addr} {rows : List (List D)} : H a = some (.lst vs) → DVs K F H vs ds → ¬ F a → H0 a = none → Rows H0 as rows → Rows H0 (a :: as) (ds :: rows)
mutual
inductive TrR (H0 : Hp) : Tr → V → List Addr → Prop
  | d {v : V} {x : D} : DV K F H v x → TrR H0 (.d x) v []
  | l {a : Addr} {vs : List V} {ts : List Tr} {as : List Addr} : H a = some (.lst vs) → ¬ F a → H0 a = none → TrRs H0 ts vs as → TrR H0 (.l ts) (.ref a) (a :: as)
  | t {a : Addr} {vs : List V} {ts : List Tr} {as : List Addr} : H a = some (.tup vs) → TrRs H0 ts vs as → TrR H0 (.t ts) (.ref a) as
inductive TrRs (H0 : Hp) : List Tr → List V → List Addr → Prop
  | nil : TrRs H0 [] [] []
  | cons {t : Tr} {v : V} {ts : List Tr} {vs : List V} {as bs : List Addr} : TrR H0 t v as → TrRs H0 ts vs bs → TrRs H0 (t :: ts) (v :: vs) (as ++ bs)
end
inductive SlR (H0 : Hp) : Sl → Option V → List Addr → Prop
  | tr {v : V} {t : Tr} {as : List Addr} : TrR K F H H0 t v as → SlR H0 (.tr t) (some v) as
  | un (v : Option V) : SlR H0 .un v []
  | d {v : V} {x : D} : DV K F H v x → SlR H0 (.d x) (some v) []
  | own {a : Addr} {o : HO} {c : Cn} {q : Option Addr} : H a = some o → CnR K F H c o → ¬ F a → H0 a = none → (∀ b, q = some b → b = a) → SlR H0 (.ow q c) (some (.ref a)) [a]
  | ll {a : Addr} {as : List Addr} {rows : List (List D)} : H a = some (.lst (as.map V.ref)) → ¬ F a → H0 a = none → Rows K F H H0 as rows → SlR H0 (.ll rows) (some (.ref a)) (a :: as)
  | hole {a b : Addr} {as bs : List Addr} {r1 r2 : List (List D)} : H a = some (.lst ((as ++ b :: bs).map V.ref)) → ¬ F a → H0 a = none → Rows K F H H0 as r1 → Rows K F H H0 bs r2 → SlR H0 (.hole r1 b r2) (some (.ref a)) (a :: (as ++ bs))
inductive Sls (H0 : Hp) : Env3 → L2.St → List Addr → Prop
  | nil : Sls H0 [] [] []
  | cons {s : Sl} {v : Option V} {as bs : List Addr} {ss : Env3} {vs : L2.St} : SlR K F H H0 s v as → Sls H0 ss vs bs → Sls H0 (s :: ss) (v :: vs) (as ++ bs)
end
/-- the state: since the entry (F0, H0) objects were only added; the slots -/
structure Sta (K : PySem.W.Frag) (F0 : Fz) (H0 : Hp) (δ : Env3) (σ : L2.St) (F : Fz) (H : Hp) : Prop where
  gr : Gr F0 H0 F H
  sl : ∃ as, Sls K F H H0 δ σ as ∧ as.Nodup

section
variable {K : PySem.W.Frag} {F F' F0 : Fz} {H H' H0 : Hp}
theorem Paired.imp {α β : Type} {G G' : α → β → Prop} (h : ∀ a b, G a b → G' a b) : ∀ {l : List α} {m : List β}, Paired G l m → Paired G' l m
  | _, _, .nil => .nil
  | _, _, .cons r t => .cons (h _ _ r) (Paired.imp h t)
theorem CnR.le (l : Le F H F' H') {c : Cn} {o : HO} (h : CnR K F H c o) : CnR K F' H' c o := by
  cases c with
  | lst ds =>
    obtain ⟨vs, e, r⟩ := h
    exact ⟨vs, e, DVs.le l _ _ r⟩
  | set w a xs => exact h
  | dk kvs =>
    obtain ⟨gs, e, r⟩ := h
    exact ⟨gs, e, Paired.imp (fun a b z => ⟨z.1, DV.le l _ _ z.2⟩) r⟩
  | dt kvs =>
    obtain ⟨gs, e, r⟩ := h
    exact ⟨gs, e, Paired.imp (fun a b z => ⟨z.1, DV.le l _ _ z.2⟩) r⟩
  | ins C fs =>
    obtain ⟨dx, gs, e, r⟩ := h
    exact ⟨dx, gs, e, DFs.le l _ _ r⟩
/-- an own object is no tuple, nothing known -/
def OwnO : HO → Prop
  | .lst _ => True
  | .set _ _ => True
  | .ext _ => True
  | .dK _ => True
  | .dT _ => True
  | .ins _ _ _ => True
  | _ => False
theorem CnR.own {c : Cn} {o : HO} (h : CnR K F H c o) : OwnO o := by
  cases c with
  | lst ds =>
    obtain ⟨vs, rfl, r⟩ := h
    trivial
  | set w a xs =>
    obtain ⟨rfl, _⟩ := h
    trivial
  | dk kvs =>
    obtain ⟨gs, rfl, r⟩ := h
    trivial
  | dt kvs =>
    obtain ⟨gs, rfl, r⟩ := h
    trivial
  | ins C fs =>
    obtain ⟨dx, gs, rfl, r⟩ := h
    trivial
/-- an own object is written -/
theorem Le.mut {a : Addr} {o o' : HO} (hF : ¬ F a) (e : H a = some o) (ho : OwnO o) : Le F H F (upd H a o') := by
  refine ⟨fun _ h => h, fun b u hb eb => ?_, fun b xs eb => ?_, fun b q u eb => ?_⟩
  · have ne : b ≠ a := fun z => hF (by rw [← z]; exact hb)
    rw [upd_ne ne]
    exact eb
  · have ne : b ≠ a := fun z => by
      subst z
      rw [e] at eb
      cases eb
      exact ho
    rw [upd_ne ne]
    exact eb
  · have ne : b ≠ a := fun z => by
      subst z
      rw [e] at eb
      cases eb
      exact ho
    rw [upd_ne ne]
    exact eb
theorem Rows.le (l : Le F H F' H') : ∀ {as : List Addr} {rows : List (List D)}, (∀ a ∈ as, H' a = H a ∧ ¬ F' a) → Rows K F H H0 as rows → Rows K F' H' H0 as rows
  | _, _, _, .nil => .nil
  | _, _, hk, .cons h1 h2 h3 h4 h5 => by
    obtain ⟨e, nf⟩ := hk _ List.mem_cons_self
    exact .cons (e.trans h1) (DVs.le l _ _ h2) nf h4 (Rows.le l (fun b hb => hk b (List.mem_cons_of_mem _ hb)) h5)
mutual
theorem TrR.le (l : Le F H F' H') : ∀ (t : Tr) {v : V} {as : List Addr}, (∀ a ∈ as, H' a = H a ∧ ¬ F' a) → TrR K F H H0 t v as → TrR K F' H' H0 t v as
  | .d x, _, _, hk, h => by
    cases h with
    | d h => exact .d (DV.le l _ _ h)
  | .l ts, _, _, hk, h => by
    cases h with
    | l h1 h2 h3 h4 =>
      obtain ⟨e, nf⟩ := hk _ List.mem_cons_self
      exact .l (e.trans h1) nf h3 (TrRs.le l ts (fun b hb => hk b (List.mem_cons_of_mem _ hb)) h4)
  | .t ts, _, _, hk, h => by
    cases h with
    | t h1 h2 => exact .t (l.tup _ _ h1) (TrRs.le l ts hk h2)
theorem TrRs.le (l : Le F H F' H') : ∀ (ts : List Tr) {vs : List V} {as : List Addr}, (∀ a ∈ as, H' a = H a ∧ ¬ F' a) → TrRs K F H H0 ts vs as → TrRs K F' H' H0 ts vs as
  | [], _, _, hk, h => by
    cases h
    exact .nil
  | t :: ts, _, _, hk, h => by
    cases h with
    | cons h1 h2 => exact .cons (TrR.le l t (fun b hb => hk b (List.mem_append_left _ hb)) h1) (TrRs.le l ts (fun b hb => hk b (List.mem_append_right _ hb)) h2)
end
mutual
theorem TrR.at_ : ∀ (t : Tr) {v : V} {as : List Addr}, TrR K F H H0 t v as → ∀ a ∈ as, (∃ vs, H a = some (.lst vs)) ∧ ¬ F a ∧ H0 a = none
  | .d x, _, _, h, a, ha => by
    cases h
    cases ha
  | .l ts, _, _, h, a, ha => by
    cases h with
    | l h1 h2 h3 h4 =>
      rcases List.mem_cons.mp ha with rfl | ha
      · exact ⟨⟨_, h1⟩, h2, h3⟩
      · exact TrRs.at_ ts h4 a ha
  | .t ts, _, _, h, a, ha => by
    cases h with
    | t h1 h2 => exact TrRs.at_ ts h2 a ha
theorem TrRs.at_ : ∀ (ts : List Tr) {vs : List V} {as : List Addr}, TrRs K F H H0 ts vs as → ∀ a ∈ as, (∃ vs, H a = some (.lst vs)) ∧ ¬ F a ∧ H0 a = none
  | [], _, _, h, a, ha => by
    cases h
    cases ha
  | t :: ts, _, _, h, a, ha => by
    cases h with
    | cons h1 h2 =>
      rcases List.mem_append.mp ha with ha | ha
      · exact TrR.at_ t h1 a ha
      · exact TrRs.at_ ts h2 a ha
end
theorem SlR.le (l : Le F H F' H') {s : Sl} {v : Option V} {as : List Addr} (hk : ∀ a ∈ as, H' a = H a ∧ ¬ F' a) (h : SlR K F H H0 s v as) : SlR K F' H' H0 s v as := by
  cases h with
  | tr h => exact .tr (TrR.le l _ hk h)
  | un => exact .un _
  | d h => exact .d (DV.le l _ _ h)
  | own h1 h2 h3 h4 h5 =>
    obtain ⟨e, nf⟩ := hk _ List.mem_cons_self
    exact .own (e.trans h1) (h2.le l) nf h4 h5
  | ll h1 h2 h3 h4 =>
    obtain ⟨e, nf⟩ := hk _ List.mem_cons_self
    exact .ll (e.trans h1) nf h3 (Rows.le l (fun b hb => hk b (List.mem_cons_of_mem _ hb)) h4)
  | hole h1 h2 h3 h4 h5 =>
    obtain ⟨e, nf⟩ := hk _ List.mem_cons_self
    exact .hole (e.trans h1) nf h3 (Rows.le l (fun b hb => hk b (List.mem_cons_of_mem _ (List.mem_append_left _ hb))) h4) (Rows.le l (fun b hb => hk b (List.mem_cons_of_mem _ (List.mem_append_right _ hb))) h5)
theorem Sls.le (l : Le F H F' H') : ∀ {δ : Env3} {σ : L2.St} {as : List Addr}, (∀ a ∈ as, H' a = H a ∧ ¬ F' a) → Sls K F H H0 δ σ as → Sls K F' H' H0 δ σ as
  | _, _, _, _, .nil => .nil
  | _, _, _, hk, .cons h1 h2 => .cons (h1.le l fun a ha => hk a (List.mem_append_left _ ha)) (Sls.le l (fun a ha => hk a (List.mem_append_right _ ha)) h2)
theorem Rows.at_ : ∀ {as : List Addr} {rows : List (List D)}, Rows K F H H0 as rows → ∀ a ∈ as, (∃ o, H a = some o) ∧ ¬ F a ∧ H0 a = none
  | _, _, .cons h1 h2 h3 h4 h5, a, ha => by
    rcases List.mem_cons.mp ha with rfl | ha
    · exact ⟨⟨_, h1⟩, h3, h4⟩
    · exact Rows.at_ h5 a ha
theorem SlR.at_ {s : Sl} {v : Option V} {as : List Addr} (h : SlR K F H H0 s v as) : ∀ a ∈ as, (∃ o, H a = some o) ∧ ¬ F a ∧ H0 a = none := by
  intro a ha
  cases h with
  | tr h =>
    obtain ⟨⟨vs, e⟩, h2⟩ := TrR.at_ _ h a ha
    exact ⟨⟨_, e⟩, h2⟩
  | un => cases ha
  | d _ => cases ha
  | own h1 h2 h3 h4 h5 =>
    rcases List.mem_cons.mp ha with rfl | ha
    · exact ⟨⟨_, h1⟩, h3, h4⟩
    · cases ha
  | ll h1 h2 h3 h4 =>
    rcases List.mem_cons.mp ha with rfl | ha
    · exact ⟨⟨_, h1⟩, h2, h3⟩
    · exact Rows.at_ h4 a ha
  | hole h1 h2 h3 h4 h5 =>
    rcases List.mem_cons.mp ha with rfl | ha
    · exact ⟨⟨_, h1⟩, h2, h3⟩
    · rcases List.mem_append.mp ha with ha | ha
      · exact Rows.at_ h4 a ha
      · exact Rows.at_ h5 a ha
theorem Sls.at_ : ∀ {δ : Env3} {σ : L2.St} {as : List Addr}, Sls K F H H0 δ σ as → ∀ a ∈ as, (∃ o, H a = some o) ∧ ¬ F a ∧ H0 a = none
  | _, _, _, .cons h1 h2, a, ha => by
    rcases List.mem_append.mp ha with ha | ha
    · exact h1.at_ a ha
    · exact Sls.at_ h2 a ha
theorem Sls.len : ∀ {δ : Env3} {σ : L2.St} {as : List Addr}, Sls K F H H0 δ σ as → δ.length = σ.length
  | _, _, _, .nil => rfl
  | _, _, _, .cons _ h2 => congrArg Nat.succ (Sls.len h2)
theorem Sls.get : ∀ {δ : Env3} {σ : L2.St} {as : List Addr} {i : Nat} {s : Sl}, Sls K F H H0 δ σ as → δ[i]? = some s → ∃ v bs, σ[i]? = some v ∧ SlR K F H H0 s v bs ∧ ∀ b ∈ bs, b ∈ as
  | _, _, _, _, _, .nil, e => by simp at e
  | _, _, _, 0, _, .cons h1 h2, e => by
    have e2 := Option.some.inj (by simpa using e)
    subst e2
    exact ⟨_, _, rfl, h1, fun b hb => List.mem_append_left _ hb⟩
  | _, _, _, i + 1, _, .cons h1 h2, e => by
    obtain ⟨v, bs, e1, r, m⟩ := Sls.get (i := i) h2 (by simpa using e)
    exact ⟨v, bs, by simpa using e1, r, fun b hb => List.mem_append_right _ (m b hb)⟩
/-- a slot is replaced -/
theorem Sls.set {s : Sl} {v : Option V} {bs : List Addr} (r : SlR K F H H0 s v bs) (nb : bs.Nodup) : ∀ {δ : Env3} {σ : L2.St} {as : List Addr} (i : Nat), Sls K F H H0 δ σ as → as.Nodup → (∀ b ∈ bs, b ∉ as) →
    ∃ as', Sls K F H H0 (δ.set i s) (σ.set i v) as' ∧ as'.Nodup ∧ ∀ x ∈ as', x ∈ as ∨ x ∈ bs
  | _, _, _, _, .nil, _, _ => ⟨[], .nil, List.nodup_nil, fun x hx => by cases hx⟩
  | _, _, _, 0, .cons (as := as) (bs := cs) h1 h2, nd, ds => by
    obtain ⟨n1, n2, n3⟩ := List.nodup_append.mp nd
    refine ⟨bs ++ cs, .cons r h2, List.nodup_append.mpr ⟨nb, n2, fun a ha b hb e => ?_⟩, fun x hx => ?_⟩
    · subst e
      exact ds _ ha (List.mem_append_right _ hb)
    · rcases List.mem_append.mp hx with hx | hx
      · exact .inr hx
      · exact .inl (List.mem_append_right _ hx)
  | _, _, _, i + 1, .cons (as := as) (bs := cs) h1 h2, nd, ds => by
    obtain ⟨n1, n2, n3⟩ := List.nodup_append.mp nd
    obtain ⟨cs', q1, q2, q3⟩ := Sls.set r nb i h2 n2 fun b hb hc => ds b hb (List.mem_append_right _ hc)
    refine ⟨as ++ cs', .cons h1 q1, List.nodup_append.mpr ⟨n1, q2, fun a ha b hb e => ?_⟩, fun x hx => ?_⟩
    · subst e
      rcases q3 _ hb with z | z
      · exact n3 _ ha _ z rfl
      · exact ds _ z (List.mem_append_left _ ha)
    · rcases List.mem_append.mp hx with hx | hx
      · exact .inl (List.mem_append_left _ hx)
      · rcases q3 x hx with z | z
        · exact .inl (List.mem_append_right _ z)
        · exact .inr z
/-- an own slot: where it lies, and how it is written -/
theorem Sls.own {c : Cn} {q : Option Addr} : ∀ {δ : Env3} {σ : L2.St} {as : List Addr} (i : Nat), Sls K F H H0 δ σ as → as.Nodup → δ[i]? = some (.ow q c) →
    ∃ a o, σ[i]? = some (some (.ref a)) ∧ H a = some o ∧ CnR K F H c o ∧ ¬ F a ∧ H0 a = none ∧ a ∈ as ∧ (∀ b, q = some b → b = a) ∧
      ∀ H' o' c', (∀ b, b ≠ a → H' b = H b) → Le F H F H' → H' a = some o' → CnR K F H' c' o' → Sls K F H' H0 (δ.set i (.ow q c')) σ as
  | _, _, _, _, .nil, _, e => by simp at e
  | _, _, _, 0, .cons (bs := cs) h1 h2, nd, e => by
    have e2 := Option.some.inj (by simpa using e)
    subst e2
    cases h1 with
    | @own a o _ _ g1 g2 g3 g4 g5 =>
      obtain ⟨n1, n2, n3⟩ := List.nodup_append.mp nd
      refine ⟨a, o, rfl, g1, g2, g3, g4, List.mem_append_left _ List.mem_cons_self, g5, fun H' o' c' hk l he hc => ?_⟩
      refine .cons (as := [a]) (.own he hc g3 g4 g5) (Sls.le l (fun b hb => ⟨hk b fun z => ?_, (h2.at_ b hb).2.1⟩) h2)
      subst z
      exact n3 _ List.mem_cons_self _ hb rfl
  | _, _, _, i + 1, .cons (as := bs) (bs := cs) h1 h2, nd, e => by
    obtain ⟨n1, n2, n3⟩ := List.nodup_append.mp nd
    obtain ⟨a, o, e1, e2, e3, e4, e5, e6, e8, e7⟩ := Sls.own i h2 n2 (by simpa using e)
    refine ⟨a, o, by simpa using e1, e2, e3, e4, e5, List.mem_append_right _ e6, e8, fun H' o' c' hk l he hc => ?_⟩
    refine .cons (h1.le l fun b hb => ⟨hk b fun z => ?_, (h1.at_ b hb).2.1⟩) (e7 H' o' c' hk l he hc)
    subst z
    exact n3 _ hb _ e6 rfl
end

section
variable {K : PySem.W.Frag} {F F' F0 : Fz} {H H' H0 : Hp} {δ : Env3} {σ : L2.St}
theorem Sta.dom (S : Sta K F0 H0 δ σ F H) : ∀ a, F a → ∃ o, H a = some o := S.gr.dom
theorem Sta.go (S : Sta K F0 H0 δ σ F H) (g : Gr F H F' H') : Sta K F0 H0 δ σ F' H' := by
  obtain ⟨as, h, nd⟩ := S.sl
  refine ⟨S.gr.trans g, as, Sls.le g.le (fun a ha => ?_) h, nd⟩
  obtain ⟨⟨o, e⟩, nf, _⟩ := h.at_ a ha
  refine ⟨(g.keep a o e).trans e.symm, fun z => ?_⟩
  rcases g.new a z with z | z
  · exact nf z
  · rw [e] at z
    cases z
theorem Sta.d (S : Sta K F0 H0 δ σ F H) {i : Nat} {x : D} (e : δ[i]? = some (.d x)) : ∃ v, σ[i]? = some (some v) ∧ DV K F H v x := by
  obtain ⟨as, h, nd⟩ := S.sl
  obtain ⟨v, bs, e1, r, _⟩ := h.get e
  cases r with
  | d r => exact ⟨_, e1, r⟩
theorem Sta.setd (S : Sta K F0 H0 δ σ F H) {v : V} {x : D} (i : Nat) (h : DV K F H v x) : Sta K F0 H0 (δ.set i (.d x)) (σ.set i (some v)) F H := by
  obtain ⟨as, q, nd⟩ := S.sl
  obtain ⟨as', q1, q2, _⟩ := q.set (.d h) List.nodup_nil i nd fun b hb => by cases hb
  exact ⟨S.gr, as', q1, q2⟩
theorem Sta.setun (S : Sta K F0 H0 δ σ F H) (v : Option V) (i : Nat) : Sta K F0 H0 (δ.set i .un) (σ.set i v) F H := by
  obtain ⟨as, q, nd⟩ := S.sl
  obtain ⟨as', q1, q2, _⟩ := q.set (.un v) List.nodup_nil i nd fun b hb => by cases hb
  exact ⟨S.gr, as', q1, q2⟩
/-- a new object into a slot -/
theorem Sta.setown (S : Sta K F0 H0 δ σ F H) (g : Gr F H F' H') {a : Addr} {o : HO} {c : Cn} {q : Option Addr} (i : Nat) (ha : H a = none) (e : H' a = some o) (hc : CnR K F' H' c o) (hF : ¬ F' a) (hq : ∀ b, q = some b → b = a := by intro _ z; cases z) : Sta K F0 H0 (δ.set i (.ow q c)) (σ.set i (some (.ref a))) F' H' := by
  obtain ⟨as, q0, _⟩ := S.sl
  have S2 := S.go g
  obtain ⟨as2, q2, nd2⟩ := S2.sl
  have S3 : ∃ as3, Sls K F' H' H0 δ σ as3 ∧ as3.Nodup ∧ a ∉ as3 := by
    obtain ⟨as, h, nd⟩ := S.sl
    refine ⟨as, Sls.le g.le (fun b hb => ?_) h, nd, fun hm => ?_⟩
    · obtain ⟨⟨u, eu⟩, nf, _⟩ := h.at_ b hb
      refine ⟨(g.keep b u eu).trans eu.symm, fun z => ?_⟩
      rcases g.new b z with z | z
      · exact nf z
      · rw [eu] at z
        cases z
    · obtain ⟨⟨u, eu⟩, _, _⟩ := h.at_ a hm
      rw [ha] at eu
      cases eu
  obtain ⟨as3, q3, nd3, na3⟩ := S3
  obtain ⟨as', q4, q5, _⟩ := q3.set (.own e hc hF (S.gr.back ha) hq) (List.nodup_cons.mpr ⟨by simp, List.nodup_nil⟩) i nd3 fun b hb => by
    rcases List.mem_cons.mp hb with rfl | hb
    · exact na3
    · cases hb
  exact ⟨S2.gr, as', q4, q5⟩
/-- an own object's place; writing it -/
theorem Sta.ow (S : Sta K F0 H0 δ σ F H) {i : Nat} {c : Cn} {q : Option Addr} (e : δ[i]? = some (.ow q c)) : ∃ a o, σ[i]? = some (some (.ref a)) ∧ H a = some o ∧ CnR K F H c o ∧ ¬ F a ∧ H0 a = none ∧ (∀ b, q = some b → b = a) ∧
    ∀ o' c', CnR K F (upd H a o') c' o' → Sta K F0 H0 (δ.set i (.ow q c')) σ F (upd H a o') ∧ Le F H F (upd H a o') := by
  obtain ⟨as, h, nd⟩ := S.sl
  obtain ⟨a, o, e1, e2, e3, e4, e5, e6, e8, e7⟩ := h.own i nd e
  refine ⟨a, o, e1, e2, e3, e4, e5, e8, fun o' c' hc => ?_⟩
  have l : Le F H F (upd H a o') := Le.mut e4 e2 e3.own
  refine ⟨⟨⟨S.gr.sub, fun b u eb => ?_, S.gr.new, fun b hb => ?_⟩, as, e7 _ o' c' (fun b hb => upd_ne hb) l upd_same hc, nd⟩, l⟩
  · rw [upd_ne (ne_of_none eb e5)]
    exact S.gr.keep b u eb
  · obtain ⟨u, eu⟩ := S.gr.dom b hb
    exact ⟨u, l.keep b u hb eu⟩
theorem Sta.own (S : Sta K F0 H0 δ σ F H) {i : Nat} {c : Cn} (e : δ[i]? = some (.own c)) : ∃ a o, σ[i]? = some (some (.ref a)) ∧ H a = some o ∧ CnR K F H c o ∧ ¬ F a ∧ H0 a = none ∧
    ∀ o' c', CnR K F (upd H a o') c' o' → Sta K F0 H0 (δ.set i (.own c')) σ F (upd H a o') ∧ Le F H F (upd H a o') := by
  obtain ⟨a, o, e1, e2, e3, e4, e5, _, e7⟩ := S.ow e
  exact ⟨a, o, e1, e2, e3, e4, e5, e7⟩
/-- an own list, instance as data -/
def asD : Cn → Option D
  | .lst xs => some (.lst xs)
  | .ins C fs => some (.obj C fs)
  | _ => none
theorem asD_ok {c : Cn} {x : D} (hx : asD c = some x) {a : Addr} {o : HO} (e : H a = some o) (r : CnR K F H c o) : DV K (L3.add F a) H (.ref a) x := by
  have l : Le F H (L3.add F a) H := ⟨fun _ z => .inl z, fun _ _ _ z => z, fun _ _ z => z, fun _ _ _ z => z⟩
  cases c with
  | lst xs =>
    cases hx
    obtain ⟨vs, rfl, r⟩ := r
    exact .lst (.inr rfl) e (DVs.le l _ _ r)
  | ins C fs =>
    cases hx
    obtain ⟨dx, gs, rfl, r⟩ := r
    exact .obj (.inr rfl) e (DFs.le l _ _ r)
  | set _ _ _ => cases hx
  | dk _ => cases hx
  | dt _ => cases hx
/-- an own list (an instance) is frozen: it is data from now on -/
theorem Sta.fz (S : Sta K F0 H0 δ σ F H) {i : Nat} {c : Cn} {q : Option Addr} {x : D} (e : δ[i]? = some (.ow q c)) (hx : asD c = some x) :
    ∃ a, σ[i]? = some (some (.ref a)) ∧ ¬ F a ∧ Gr F0 H0 (add F a) H ∧ Le F H (add F a) H ∧ (∃ o, H a = some o ∧ CnR K F H c o) ∧ (∀ b, q = some b → b = a) ∧ Sta K F0 H0 (δ.set i (.d x)) σ (add F a) H := by
  obtain ⟨as, h, nd⟩ := S.sl
  have key : ∀ {δ : Env3} {σ : L2.St} {as : List Addr} (i : Nat), Sls K F H H0 δ σ as → as.Nodup → δ[i]? = some (.ow q c) →
      ∃ a, σ[i]? = some (some (.ref a)) ∧ ¬ F a ∧ H0 a = none ∧ a ∈ as ∧ (∃ o, H a = some o ∧ CnR K F H c o) ∧ (∀ b, q = some b → b = a) ∧ ∃ as', Sls K (L3.add F a) H H0 (δ.set i (.d x)) σ as' ∧ as'.Nodup ∧ ∀ b ∈ as', b ∈ as ∧ b ≠ a := by
    intro δ σ as i h
    induction h generalizing i with
    | nil =>
      intro _ e
      simp at e
    | @cons s v bs cs ss vs h1 h2 ih =>
      intro nd e
      obtain ⟨n1, n2, n3⟩ := List.nodup_append.mp nd
      cases i with
      | zero =>
        have e2 := Option.some.inj (by simpa using e)
        subst e2
        cases h1 with
        | @own a o _ _ g1 g2 g3 g4 g5 =>
          have l : Le F H (L3.add F a) H := ⟨fun _ z => .inl z, fun _ _ _ z => z, fun _ _ z => z, fun _ _ _ z => z⟩
          have ne : ∀ b ∈ cs, b ≠ a := fun b hb z => n3 a List.mem_cons_self b hb z.symm
          refine ⟨a, rfl, g3, g4, List.mem_append_left _ List.mem_cons_self, ⟨o, g1, g2⟩, g5, cs, ?_, n2, fun b hb => ⟨List.mem_append_right _ hb, ne b hb⟩⟩
          refine Sls.cons (as := []) (.d (asD_ok hx g1 g2)) (Sls.le l (fun b hb => ⟨rfl, fun z => ?_⟩) h2)
          rcases z with z | z
          · exact (h2.at_ b hb).2.1 z
          · exact ne b hb z
      | succ i =>
        obtain ⟨a, e1, e2, e3, e4, e5, e6, as', q1, q2, q3⟩ := ih i n2 (by simpa using e)
        have l : Le F H (L3.add F a) H := ⟨fun _ z => .inl z, fun _ _ _ z => z, fun _ _ z => z, fun _ _ _ z => z⟩
        refine ⟨a, by simpa using e1, e2, e3, List.mem_append_right _ e4, e5, e6, bs ++ as', ?_, List.nodup_append.mpr ⟨n1, q2, fun x hx y hy z => n3 x hx y (q3 y hy).1 z⟩, fun b hb => ?_⟩
        · refine Sls.cons (h1.le l fun b hb => ⟨rfl, fun z => ?_⟩) q1
          rcases z with z | z
          · exact (h1.at_ b hb).2.1 z
          · exact n3 b hb a e4 z
        · rcases List.mem_append.mp hb with hb | hb
          · exact ⟨List.mem_append_left _ hb, fun z => n3 b hb a e4 z⟩
          · exact ⟨List.mem_append_right _ (q3 b hb).1, (q3 b hb).2⟩
  obtain ⟨a, e1, e2, e3, e4, e5, e6, as', q1, q2, _⟩ := key i h nd e
  have l : Le F H (L3.add F a) H := ⟨fun _ z => .inl z, fun _ _ _ z => z, fun _ _ z => z, fun _ _ _ z => z⟩
  have gr : Gr F0 H0 (L3.add F a) H := by
    refine ⟨fun b hb => .inl (S.gr.sub b hb), S.gr.keep, fun b hb => ?_, fun b hb => ?_⟩
    · rcases hb with hb | rfl
      · exact S.gr.new b hb
      · exact .inr e3
    · rcases hb with hb | rfl
      · exact S.gr.dom b hb
      · obtain ⟨o, ev, _⟩ := e5
        exact ⟨_, ev⟩
  exact ⟨a, e1, e2, gr, l, e5, e6, gr, as', q1, q2⟩
theorem Sta.freeze (S : Sta K F0 H0 δ σ F H) {i : Nat} {xs : List D} (e : δ[i]? = some (.own (.lst xs))) : ∃ a, σ[i]? = some (some (.ref a)) ∧ ¬ F a ∧ Gr F0 H0 (add F a) H ∧ Le F H (add F a) H ∧ (∃ vs, H a = some (.lst vs) ∧ DVs K F H vs xs) ∧ Sta K F0 H0 (δ.set i (.d (.lst xs))) σ (add F a) H := by
  obtain ⟨a, h1, h2, h3, h4, ⟨o, h5, vs, rfl, h6⟩, _, h7⟩ := S.fz e rfl
  exact ⟨a, h1, h2, h3, h4, ⟨vs, h5, h6⟩, h7⟩
end
end L3
set_option Elab.async false
set_option linter.all false
set_option maxRecDepth 100000
set_option maxHeartbeats 4000000
/-! Expressions over data. -/
namespace L3
open PySem PySem.Spec PyProof.Rows L2

section
variable (K : PySem.W.Frag) (δ : Env3)
/-- t gives the data d; a new list; a new list of new lists; arguments; a test's answer; a part of a slice -/
def Ev (t : TE) (d : D) : Prop := ∀ F0 H0 σ F H, Sta K F0 H0 δ σ F H → ∀ Q : VK, (∀ v F' H', Gr F H F' H' → DV K F' H' v d → Q v H') → t σ H Q
def Evl (t : TE) (xs : List D) : Prop := ∀ F0 H0 σ F H, Sta K F0 H0 δ σ F H → ∀ Q : VK, (∀ a vs F' H', Gr F H F' H' → H a = none → ¬ F' a → H' a = some (.lst vs) → DVs K F' H' vs xs → Q (.ref a) H') → t σ H Q
def Eva (t : TA) (ds : List D) : Prop := ∀ F0 H0 σ F H, Sta K F0 H0 δ σ F H → ∀ Q : List V → Hp → Prop, (∀ vs F' H', Gr F H F' H' → DVs K F' H' vs ds → Q vs H') → t σ H Q
def Evt (t : TT) (b : Bool) : Prop := ∀ F0 H0 σ F H, Sta K F0 H0 δ σ F H → ∀ Q : Bool → Hp → Prop, (∀ F' H', Gr F H F' H' → Q b H') → t σ H Q
def Evo (t : TO) (o : Option Int) : Prop := ∀ F0 H0 σ F H, Sta K F0 H0 δ σ F H → ∀ Q : Option Int → Hp → Prop, (∀ F' H', Gr F H F' H' → Q o H') → t σ H Q
end
def dOf : V → D
  | .non => .non
  | .bl b => .bl b
  | .int i => .int i
  | .str s => .str s
  | .ty n => .ty n
  | .ref a => .ref a
  | _ => .non

section
variable {K : PySem.W.Frag} {δ : Env3} {ta tb tc te : TE} {tA : TA} {t u : TT} {d x y : D} {ds xs : List D}
theorem Ev.to (h : Ev K δ te d) {d' : D} (e : d = d') : Ev K δ te d' := e ▸ h
theorem Evl.to (h : Evl K δ te xs) {ys : List D} (e : xs = ys) : Evl K δ te ys := e ▸ h
theorem Evt.to {b b' : Bool} (h : Evt K δ t b) (e : b = b') : Evt K δ t b' := e ▸ h
/-- a new list that is not changed any more is data -/
theorem ev_l (h : Evl K δ te xs) : Ev K δ te (.lst xs) := fun F0 H0 σ F H S Q q =>
  h F0 H0 σ F H S Q fun a vs F' H' g ha nf e r => q (.ref a) (add F' a) H' (g.add ha e) (.lst (.inr rfl) e (DVs.le ⟨fun _ z => .inl z, fun _ _ _ z => z, fun _ _ z => z, fun _ _ _ z => z⟩ _ _ r))
theorem ev_var {i : Nat} (h : δ[i]? = some (.d d)) : Ev K δ (tVar i) d := fun F0 H0 σ F H S Q q => by
  obtain ⟨v, e, r⟩ := S.d h
  exact ⟨v, e, q v F H (.refl S.dom) r⟩
theorem ev_int {i : Int} : Ev K δ (tC (.int i)) (.int i) := fun _ _ _ F H S Q q => q _ F H (.refl S.dom) (.int i)
theorem ev_bl {b : Bool} : Ev K δ (tC (.bl b)) (.bl b) := fun _ _ _ F H S Q q => q _ F H (.refl S.dom) (.bl b)
theorem ev_str {s : Str} : Ev K δ (tC (.str s)) (.str s) := fun _ _ _ F H S Q q => q _ F H (.refl S.dom) (.str s)
theorem ev_non : Ev K δ (tC .non) .non := fun _ _ _ F H S Q q => q _ F H (.refl S.dom) .non
theorem ev_ref {a : Addr} : Ev K δ (tC (.ref a)) (.ref a) := fun _ _ _ F H S Q q => q _ F H (.refl S.dom) (.ref a)
theorem ev_ty {n : String} : Ev K δ (tC (.ty n)) (.ty n) := fun _ _ _ F H S Q q => q _ F H (.refl S.dom) (.ty n)
/-- two operands, a rule on values that makes nothing -/
theorem ev_op {r : R2} (ha : Ev K δ ta x) (hb : Ev K δ tb y) (hr : ∀ F H v u (Q : VK), DV K F H v x → DV K F H u y → (∀ w, DV K F H w d → Q w H) → r v u H Q) : Ev K δ (tOp r ta tb) d := fun F0 H0 σ F H S Q q =>
  ha F0 H0 σ F H S _ fun v F1 H1 g1 r1 => hb F0 H0 σ F1 H1 (S.go g1) _ fun u F2 H2 g2 r2 => hr F2 H2 v u Q (DV.le g2.le _ _ r1) r2 fun w rw' => q w F2 H2 (g1.trans g2) rw'
theorem dOf_ok {F : Fz} {H : Hp} {v : V} (h : ∃ d, DV K F H v d ∧ d = dOf v) : DV K F H v (dOf v) := by
  obtain ⟨d, h, rfl⟩ := h
  exact h
theorem ev_I0 {g : Int → Int → V} {i j : Int} (ha : Ev K δ ta (.int i)) (hb : Ev K δ tb (.int j)) (hg : ∀ F H, DV K F H (g i j) d := by intro _ _; first | exact DV.int _ | exact DV.bl _) : Ev K δ (tOp (rI0 g) ta tb) d :=
  ev_op ha hb fun F H v u Q hv hu q => by
    cases hv
    cases hu
    exact ⟨i, j, rfl, rfl, q _ (hg F H)⟩
theorem ev_I {C : Int → Int → Prop} {g : Int → Int → V} {i j : Int} (ha : Ev K δ ta (.int i)) (hb : Ev K δ tb (.int j)) (hc : C i j) (hg : ∀ F H, DV K F H (g i j) d := by intro _ _; first | exact DV.int _ | exact DV.bl _) : Ev K δ (tOp (rI C g) ta tb) d :=
  ev_op ha hb fun F H v u Q hv hu q => by
    cases hv
    cases hu
    exact ⟨i, j, rfl, rfl, hc, q _ (hg F H)⟩
theorem ev_un {r : V → Hp → VK → Prop} (ha : Ev K δ ta x) (hr : ∀ F H v (Q : VK), DV K F H v x → (∀ w, DV K F H w d → Q w H) → r v H Q) : Ev K δ (tUn r ta) d := fun F0 H0 σ F H S Q q =>
  ha F0 H0 σ F H S _ fun v F1 H1 g1 r1 => hr F1 H1 v Q r1 fun w rw' => q w F1 H1 g1 rw'
theorem ev_neg {i : Int} (ha : Ev K δ ta (.int i)) : Ev K δ (tUn (rU fun i => .int (-i)) ta) (.int (-i)) := ev_un ha fun F H v Q hv q => by
  cases hv
  exact ⟨i, rfl, q _ (.int _)⟩
/-- == of plain values -/
def eqS : D → D → Option Bool
  | .int i, .int j => some (decide (i = j))
  | .bl i, .bl j => some (decide (i = j))
  | .str i, .str j => some (decide (i = j))
  | .non, .non => some true
  | .non, .int _ => some false
  | .int _, .non => some false
  | .non, .str _ => some false
  | .str _, .non => some false
  | .non, .bl _ => some false
  | .bl _, .non => some false
  | .int _, .str _ => some false
  | .str _, .int _ => some false
  | _, _ => none
theorem eqS_ok {F : Fz} {H : Hp} {v u : V} {b : Bool} (hv : DV K F H v x) (hu : DV K F H u y) (e : eqS x y = some b) : scal v u = true ∧ decide (v = u) = b := by
  cases x <;> cases y <;> first
    | (cases hv; cases hu; cases e; exact ⟨rfl, by simp⟩)
    | (cases hv; cases hu; cases e; exact ⟨rfl, rfl⟩)
    | cases e
theorem ev_eqS {b : Bool} (ha : Ev K δ ta x) (hb : Ev K δ tb y) (e : eqS x y = some b := by rfl) : Ev K δ (tOp rEq ta tb) (.bl b) := ev_op ha hb fun F H v u Q hv hu q => by
  obtain ⟨h1, h2⟩ := eqS_ok hv hu e
  exact ⟨h1, q _ (by rw [h2]; exact .bl b)⟩
theorem ev_neS {b : Bool} (ha : Ev K δ ta x) (hb : Ev K δ tb y) (e : eqS x y = some b := by rfl) : Ev K δ (tOp rNe ta tb) (.bl (!b)) := ev_op ha hb fun F H v u Q hv hu q => by
  obtain ⟨h1, h2⟩ := eqS_ok hv hu e
  exact ⟨h1, q _ (by rw [h2]; exact .bl _)⟩
/-! ### tests -/
theorem evt_test {b : Bool} (h : Ev K δ te (.bl b)) : Evt K δ (tTest te) b := fun F0 H0 σ F H S Q q => h F0 H0 σ F H S _ fun v F1 H1 g r => by
  cases r
  exact ⟨b, rfl, q F1 H1 g⟩
theorem evt_B {b : Bool} (h : Ev K δ te (.bl b)) : Evt K δ (tB te) b := fun F0 H0 σ F H S Q q => h F0 H0 σ F H S _ fun v F1 H1 g r => by
  cases r
  exact ⟨b, rfl, q F1 H1 g⟩
theorem evt_not {b : Bool} (h : Evt K δ t b) : Evt K δ (tNot t) (!b) := fun F0 H0 σ F H S Q q => h F0 H0 σ F H S _ fun F1 H1 g => q F1 H1 g
theorem evt_and {a b : Bool} (h1 : Evt K δ t a) (h2 : a = true → Evt K δ u b) : Evt K δ (tAnd t u) (a && b) := fun F0 H0 σ F H S Q q => h1 F0 H0 σ F H S _ fun F1 H1 g1 => by
  cases a with
  | true =>
    show u σ H1 Q
    exact h2 rfl F0 H0 σ F1 H1 (S.go g1) Q fun F2 H2 g2 => q F2 H2 (g1.trans g2)
  | false =>
    show Q false H1
    exact q F1 H1 g1
theorem evt_or {a b : Bool} (h1 : Evt K δ t a) (h2 : a = false → Evt K δ u b) : Evt K δ (tOr t u) (a || b) := fun F0 H0 σ F H S Q q => h1 F0 H0 σ F H S _ fun F1 H1 g1 => by
  cases a with
  | true =>
    show Q true H1
    exact q F1 H1 g1
  | false =>
    show u σ H1 Q
    exact h2 rfl F0 H0 σ F1 H1 (S.go g1) Q fun F2 H2 g2 => q F2 H2 (g1.trans g2)
theorem evt_yes : Evt K δ tYes true := fun F0 H0 σ F H S Q q => q F H (.refl S.dom)
/-- truth of a value -/
def truD : D → Option Bool
  | .non => some false
  | .bl b => some b
  | .int i => some (i != 0)
  | .lst xs => some (!xs.isEmpty)
  | .tup xs => some (!xs.isEmpty)
  | _ => none
theorem emp_eq {F : Fz} {H : Hp} {vs : List V} (r : DVs K F H vs xs) : vs.isEmpty = xs.isEmpty := by
  cases r <;> rfl
theorem truD_ok {F : Fz} {H : Hp} {v : V} {b : Bool} (h : DV K F H v x) (e : truD x = some b) : TruV K v H b := by
  cases x <;> first | (cases e; done) | skip
  · cases h
    cases e
    rfl
  · cases h
    cases e
    rfl
  · cases h
    cases e
    rfl
  · cases h with
    | lst h1 h2 h3 =>
      cases e
      exact .inl ⟨_, SqL.of h2, by rw [emp_eq h3]⟩
  · cases h with
    | tup h1 h2 =>
      cases e
      exact .inr (.inl ⟨_, h1, by rw [emp_eq h2]⟩)
theorem evt_tru {b : Bool} (h : Ev K δ te x) (e : truD x = some b := by rfl) : Evt K δ (fun σ H Q => te σ H fun x H' => ∃ k, TruV K x H' k ∧ Q k H') b := fun F0 H0 σ F H S Q q => h F0 H0 σ F H S _ fun v F1 H1 g r =>
  ⟨b, truD_ok r e, q F1 H1 g⟩
/-! ### and, or, not, if as values -/
theorem ev_andV {a b : Bool} (h1 : Ev K δ ta (.bl a)) (h2 : a = true → Ev K δ tb (.bl b)) : Ev K δ (tAndV ta tb) (.bl (a && b)) := fun F0 H0 σ F H S Q q => h1 F0 H0 σ F H S _ fun v F1 H1 g1 r => by
  cases r
  refine ⟨a, rfl, ?_⟩
  cases a with
  | true =>
    show tb σ H1 Q
    exact h2 rfl F0 H0 σ F1 H1 (S.go g1) Q fun w F2 H2 g2 r2 => q w F2 H2 (g1.trans g2) r2
  | false =>
    show Q (.bl false) H1
    exact q _ F1 H1 g1 (.bl _)
theorem ev_orV {a b : Bool} (h1 : Ev K δ ta (.bl a)) (h2 : a = false → Ev K δ tb (.bl b)) : Ev K δ (tOrV ta tb) (.bl (a || b)) := fun F0 H0 σ F H S Q q => h1 F0 H0 σ F H S _ fun v F1 H1 g1 r => by
  cases r
  refine ⟨a, rfl, ?_⟩
  cases a with
  | true =>
    show Q (.bl true) H1
    exact q _ F1 H1 g1 (.bl _)
  | false =>
    show tb σ H1 Q
    exact h2 rfl F0 H0 σ F1 H1 (S.go g1) Q fun w F2 H2 g2 r2 => q w F2 H2 (g1.trans g2) r2
theorem ev_notV {a : Bool} (h : Ev K δ ta (.bl a)) : Ev K δ (tNotV ta) (.bl (!a)) := fun F0 H0 σ F H S Q q => h F0 H0 σ F H S _ fun v F1 H1 g1 r => by
  cases r
  exact ⟨a, rfl, q _ F1 H1 g1 (.bl _)⟩
theorem ev_ifE {b : Bool} (h : Evt K δ t b) (h1 : b = true → Ev K δ ta d) (h2 : b = false → Ev K δ tb d) : Ev K δ (tIf t ta tb) d := fun F0 H0 σ F H S Q q => h F0 H0 σ F H S _ fun F1 H1 g1 => by
  cases b with
  | true =>
    show ta σ H1 Q
    exact h1 rfl F0 H0 σ F1 H1 (S.go g1) Q fun w F2 H2 g2 r2 => q w F2 H2 (g1.trans g2) r2
  | false =>
    show tb σ H1 Q
    exact h2 rfl F0 H0 σ F1 H1 (S.go g1) Q fun w F2 H2 g2 r2 => q w F2 H2 (g1.trans g2) r2
/-- a < b < c -/
theorem ev_chain {r r' : R2} {z : D} {a b : Bool} (ha : Ev K δ ta x) (hb : Ev K δ tb y) (hr : ∀ F H v u (Q : VK), DV K F H v x → DV K F H u y → Q (.bl a) H → r v u H Q)
    (hc : a = true → Ev K δ tc z) (hr2 : a = true → ∀ F H v u (Q : VK), DV K F H v y → DV K F H u z → Q (.bl b) H → r' v u H Q) : Ev K δ (tChain r r' ta tb tc) (.bl (a && b)) := fun F0 H0 σ F H S Q q =>
  ha F0 H0 σ F H S _ fun v F1 H1 g1 r1 => hb F0 H0 σ F1 H1 (S.go g1) _ fun w F2 H2 g2 r2 => hr F2 H2 v w _ (DV.le g2.le _ _ r1) r2 ⟨a, rfl, by
    cases a with
    | true =>
      show tc σ H2 fun w' H4 => r' w w' H4 Q
      exact hc rfl F0 H0 σ F2 H2 ((S.go g1).go g2) _ fun w' F3 H3 g3 r3 => hr2 rfl F3 H3 w w' Q (DV.le g3.le _ _ r2) r3 (q _ F3 H3 ((g1.trans g2).trans g3) (.bl _))
    | false =>
      show Q (.bl false) H2
      exact q _ F2 H2 (g1.trans g2) (.bl _)⟩
/-- .. of ints -/
theorem ev_chainI {p p' : Int → Int → Bool} {i j k : Int} (ha : Ev K δ ta (.int i)) (hb : Ev K δ tb (.int j)) (hc : p i j = true → Ev K δ tc (.int k)) :
    Ev K δ (tChain (rI0 fun i j => .bl (p i j)) (rI0 fun i j => .bl (p' i j)) ta tb tc) (.bl (p i j && p' j k)) :=
  ev_chain ha hb (fun F H v u Q hv hu q => by cases hv; cases hu; exact ⟨i, j, rfl, rfl, q⟩) hc fun _ F H v u Q hv hu q => by cases hv; cases hu; exact ⟨j, k, rfl, rfl, q⟩
/-! ### arguments, displays -/
theorem eva_nil : Eva K δ tNil [] := fun F0 H0 σ F H S Q q => q [] F H (.refl S.dom) .nil
theorem eva_cons (h : Ev K δ te d) (hr : Eva K δ tA ds) : Eva K δ (tCons te tA) (d :: ds) := fun F0 H0 σ F H S Q q =>
  h F0 H0 σ F H S _ fun v F1 H1 g1 r1 => hr F0 H0 σ F1 H1 (S.go g1) _ fun vs F2 H2 g2 r2 => q (v :: vs) F2 H2 (g1.trans g2) (.cons (DV.le g2.le _ _ r1) r2)
theorem sz5 {n : Nat} (h : n ≤ 100000) : n ≤ sizeLine := Nat.le_trans h (by decide)
theorem sz5l {n : Nat} (h : n < 100000) : n < sizeLine := Nat.lt_of_lt_of_le h (by decide)
theorem ev_tup (h : Eva K δ tA ds) (hz : ds.length ≤ 100000 := by first | decide | exact Nat.le_of_ble_eq_true rfl) : Ev K δ (tTup tA) (.tup ds) := fun F0 H0 σ F H S Q q =>
  h F0 H0 σ F H S _ fun vs F1 H1 g1 r1 => ⟨by rw [r1.length]; exact sz5 hz, fun p hp => q (.ref p) F1 _ (g1.upd hp) (.tup (SqT.of upd_same) (DVs.le ((Gr.refl g1.dom).upd hp).le _ _ r1))⟩
/-- a new list is laid -/
theorem new_l {F : Fz} {H : Hp} {F1 : Fz} {H1 : Hp} {vs : List V} {Q : VK} (g1 : Gr F H F1 H1) (r1 : DVs K F1 H1 vs xs)
    (q : ∀ a vs F' H', Gr F H F' H' → H a = none → ¬ F' a → H' a = some (.lst vs) → DVs K F' H' vs xs → Q (.ref a) H') : ∀ p, H1 p = none → Q (.ref p) (upd H1 p (.lst vs)) := fun p hp => by
  refine q p vs F1 _ (g1.upd hp) (g1.back hp) (fun z => ?_) upd_same (DVs.le ((Gr.refl g1.dom).upd hp).le _ _ r1)
  obtain ⟨o, e⟩ := g1.dom p z
  rw [hp] at e
  cases e
theorem evl_lst (h : Eva K δ tA ds) (hz : ds.length ≤ 100000 := by first | decide | exact Nat.le_of_ble_eq_true rfl) : Evl K δ (tLst tA) ds := fun F0 H0 σ F H S Q q =>
  h F0 H0 σ F H S _ fun vs F1 H1 g1 r1 => ⟨by rw [r1.length]; exact sz5 hz, new_l g1 r1 q⟩
/-! ### fields -/
theorem dfs_lookup {F : Fz} {H : Hp} {f : Str} : ∀ {gs : List (Str × V)} {fs : List (Str × D)}, DFs K F H gs fs → fs.lookup f = some d → ∃ v, gs.lookup f = some v ∧ DV K F H v d
  | [], [], _, e => by cases e
  | [], _ :: _, h, _ => by cases h
  | _ :: _, [], h, _ => by cases h
  | (g, v) :: gs, (g', e') :: fs, h, e => by
    cases h with
    | cons h1 h2 =>
      rw [List.lookup_cons] at e ⊢
      cases q : (f == g) with
      | true =>
        rw [q] at e
        cases e
        exact ⟨v, rfl, h1⟩
      | false =>
        rw [q] at e
        exact dfs_lookup h2 e
theorem dfs_none {F : Fz} {H : Hp} {f : Str} : ∀ {gs : List (Str × V)} {fs : List (Str × D)}, DFs K F H gs fs → fs.lookup f = none → gs.lookup f = none
  | [], [], _, e => rfl
  | [], _ :: _, h, _ => by cases h
  | _ :: _, [], h, _ => by cases h
  | (g, v) :: gs, (g', e') :: fs, h, e => by
    cases h with
    | cons h1 h2 =>
      rw [List.lookup_cons] at e ⊢
      cases q : (f == g) with
      | true =>
        rw [q] at e
        cases e
      | false =>
        rw [q] at e
        exact dfs_none h2 e
theorem ev_fld {C : Addr} {fs : List (Str × D)} {f : Str} (h : Ev K δ te (.obj C fs)) (c : Cls K C) (n : NoAttr K C f) (e : fs.lookup f = some d) : Ev K δ (tFld K te f) d := fun F0 H0 σ F H S Q q =>
  h F0 H0 σ F H S _ fun v F1 H1 g1 r1 => by
    cases r1 with
    | obj h1 h2 h3 =>
      obtain ⟨u, e1, e2⟩ := dfs_lookup h3 e
      exact ⟨_, C, _, _, u, rfl, h2, c, n, e1, q u F1 H1 g1 e2⟩
/-- .. of an instance that is being made -/
theorem ev_fldO {i : Nat} {C : Addr} {fs : List (Str × D)} {f : Str} {q : Option Addr} (h : δ[i]? = some (.ow q (.ins C fs))) (c : Cls K C) (n : NoAttr K C f) (e : fs.lookup f = some d) : Ev K δ (tFld K (tVar i) f) d := fun F0 H0 σ F H S Q q => by
  obtain ⟨a, o, e1, e2, ⟨dx, gs, rfl, r⟩, _⟩ := S.ow h
  obtain ⟨u, e3, e4⟩ := dfs_lookup r e
  exact ⟨_, e1, a, C, dx, gs, u, rfl, e2, c, n, e3, q u F H (.refl S.dom) e4⟩
/-! ### items -/
theorem atI_dv {F : Fz} {H : Hp} {vs : List V} {k : Int} (r : DVs K F H vs xs) (e : atI xs k = some d) : ∃ v, atI vs k = some v ∧ DV K F H v d := by
  unfold atI at e ⊢
  rw [r.length]
  cases q : ixN xs.length k with
  | none =>
    rw [q] at e
    cases e
  | some j =>
    rw [q] at e
    exact r.get e
theorem ev_ixL {k : Int} (ha : Ev K δ ta (.lst xs)) (hb : Ev K δ tb (.int k)) (e : atI xs k = some d) : Ev K δ (tOp (rIxL K) ta tb) d := ev_op ha hb fun F H v u Q hv hu q => by
  cases hv with
  | lst h1 h2 h3 =>
    cases hu
    obtain ⟨w, e1, e2⟩ := atI_dv h3 e
    exact ⟨_, _, k, w, rfl, rfl, SqL.of h2, e1, q w e2⟩
theorem ev_ixT {k : Int} (ha : Ev K δ ta (.tup xs)) (hb : Ev K δ tb (.int k)) (e : atI xs k = some d) : Ev K δ (tOp (rIxT K) ta tb) d := ev_op ha hb fun F H v u Q hv hu q => by
  cases hv with
  | tup h1 h2 =>
    cases hu
    obtain ⟨w, e1, e2⟩ := atI_dv h2 e
    exact ⟨_, _, k, w, rfl, rfl, h1, e1, q w e2⟩
theorem atI_map {α β : Type} (f : α → β) (l : List α) (k : Int) : atI (l.map f) k = (atI l k).map f := by
  unfold atI
  rw [List.length_map]
  cases ixN l.length k with
  | none => rfl
  | some j => simp
theorem ev_ixS {ns : List Int} {k n : Int} (ha : Ev K δ ta (.scr ns)) (hb : Ev K δ tb (.int k)) (e : atI ns k = some n) : Ev K δ (tOp (rIxL K) ta tb) (.int n) := ev_op ha hb fun F H v u Q hv hu q => by
  cases hv with
  | scr h1 =>
    cases hu
    exact ⟨_, _, k, .int n, rfl, rfl, h1.sq, by rw [atI_map, e]; rfl, q _ (.int n)⟩
theorem ev_ixO {i : Nat} {k : Int} (h : δ[i]? = some (.own (.lst xs))) (hb : Ev K δ tb (.int k)) (e : atI xs k = some d) : Ev K δ (tOp (rIxL K) (tVar i) tb) d := fun F0 H0 σ F H S Q q => by
  obtain ⟨a, o, e1, _⟩ := S.own h
  refine ⟨_, e1, hb F0 H0 σ F H S _ fun u F1 H1 g1 r1 => ?_⟩
  obtain ⟨a2, o2, e2, e3, ⟨vs, rfl, r⟩, _⟩ := (S.go g1).own h
  rw [e1] at e2
  cases e2
  cases r1
  obtain ⟨w, e4, e5⟩ := atI_dv r e
  exact ⟨a, vs, k, w, rfl, rfl, SqL.of e3, e4, q w F1 H1 g1 e5⟩
/-! ### calls of built-ins by values -/
theorem ev_cb {r : List V → Hp → VK → Prop} (h : Eva K δ tA ds) (hr : ∀ F H vs (Q : VK), DVs K F H vs ds → (∀ w, DV K F H w d → Q w H) → r vs H Q) : Ev K δ (tCB r tA) d := fun F0 H0 σ F H S Q q =>
  h F0 H0 σ F H S _ fun vs F1 H1 g1 r1 => hr F1 H1 vs Q r1 fun w rw' => q w F1 H1 g1 rw'
theorem evl_cb {r : List V → Hp → VK → Prop} (h : Eva K δ tA ds) (hr : ∀ F H vs (Q : VK), DVs K F H vs ds → (∀ ws, DVs K F H ws xs → (∀ p, H p = none → Q (.ref p) (upd H p (.lst ws)))) → r vs H Q) : Evl K δ (tCB r tA) xs := fun F0 H0 σ F H S Q q =>
  h F0 H0 σ F H S _ fun vs F1 H1 g1 r1 => hr F1 H1 vs Q r1 fun ws rw' => new_l g1 rw' q
theorem dvs1 {F : Fz} {H : Hp} {vs : List V} (h : DVs K F H vs [d]) : ∃ v, vs = [v] ∧ DV K F H v d := by
  cases h with
  | cons h1 h2 =>
    cases h2
    exact ⟨_, rfl, h1⟩
theorem dvs2 {F : Fz} {H : Hp} {vs : List V} (h : DVs K F H vs [x, y]) : ∃ v u, vs = [v, u] ∧ DV K F H v x ∧ DV K F H u y := by
  cases h with
  | cons h1 h2 =>
    obtain ⟨u, rfl, h3⟩ := dvs1 h2
    exact ⟨_, _, rfl, h1, h3⟩
theorem ev_abs {i : Int} (h : Ev K δ te (.int i)) : Ev K δ (tCB (fun xs H Q => ∃ i, xs = [.int i] ∧ Q (.int (if i < 0 then -i else i)) H) (tCons te tNil)) (.int (if i < 0 then -i else i)) :=
  ev_cb (eva_cons h eva_nil) fun F H vs Q r q => by
    obtain ⟨v, rfl, rr⟩ := dvs1 r
    cases rr
    exact ⟨i, rfl, q _ (.int _)⟩
theorem ev_int1 {i : Int} (h : Ev K δ te (.int i)) : Ev K δ (tCB (fun xs H Q => (∃ i, xs = [.int i] ∧ Q (.int i) H) ∨ ∃ k, xs = [.bl k] ∧ Q (.int (if k then 1 else 0)) H) (tCons te tNil)) (.int i) :=
  ev_cb (eva_cons h eva_nil) fun F H vs Q r q => by
    obtain ⟨v, rfl, rr⟩ := dvs1 r
    cases rr
    exact .inl ⟨i, rfl, q _ (.int _)⟩
theorem ev_int1b {k : Bool} (h : Ev K δ te (.bl k)) : Ev K δ (tCB (fun xs H Q => (∃ i, xs = [.int i] ∧ Q (.int i) H) ∨ ∃ k, xs = [.bl k] ∧ Q (.int (if k then 1 else 0)) H) (tCons te tNil)) (.int (if k then 1 else 0)) :=
  ev_cb (eva_cons h eva_nil) fun F H vs Q r q => by
    obtain ⟨v, rfl, rr⟩ := dvs1 r
    cases rr
    exact .inr ⟨k, rfl, q _ (.int _)⟩
theorem ev_max2 {i j : Int} (h1 : Ev K δ ta (.int i)) (h2 : Ev K δ tb (.int j)) : Ev K δ (tCB (fun xs H Q => ∃ i j, xs = [.int i, .int j] ∧ Q (.int (if j > i then j else i)) H) (tCons ta (tCons tb tNil))) (.int (if j > i then j else i)) :=
  ev_cb (eva_cons h1 (eva_cons h2 eva_nil)) fun F H vs Q r q => by
    obtain ⟨v, u, rfl, r1, r2⟩ := dvs2 r
    cases r1
    cases r2
    exact ⟨i, j, rfl, q _ (.int _)⟩
theorem ev_min2 {i j : Int} (h1 : Ev K δ ta (.int i)) (h2 : Ev K δ tb (.int j)) : Ev K δ (tCB (fun xs H Q => ∃ i j, xs = [.int i, .int j] ∧ Q (.int (if j < i then j else i)) H) (tCons ta (tCons tb tNil))) (.int (if j < i then j else i)) :=
  ev_cb (eva_cons h1 (eva_cons h2 eva_nil)) fun F H vs Q r q => by
    obtain ⟨v, u, rfl, r1, r2⟩ := dvs2 r
    cases r1
    cases r2
    exact ⟨i, j, rfl, q _ (.int _)⟩
theorem ev_gcd {i j : Int} (h1 : Ev K δ ta (.int i)) (h2 : Ev K δ tb (.int j)) : Ev K δ (tCB rGcd (tCons ta (tCons tb tNil))) (.int ((Nat.gcd i.natAbs j.natAbs : Nat) : Int)) :=
  ev_cb (eva_cons h1 (eva_cons h2 eva_nil)) fun F H vs Q r q => by
    obtain ⟨v, u, rfl, r1, r2⟩ := dvs2 r
    cases r1
    cases r2
    exact ⟨i, j, rfl, q _ (.int _)⟩
abbrev rLenS (K : PySem.W.Frag) : List V → Hp → VK → Prop := fun xs H Q => ∃ p ys, xs = [.ref p] ∧ (SqL K H p ys ∨ SqT K H p ys) ∧ Q (.int ys.length) H
theorem ev_lenL (h : Ev K δ te (.lst xs)) : Ev K δ (tCB (rLenS K) (tCons te tNil)) (.int (xs.length : Int)) := ev_cb (eva_cons h eva_nil) fun F H vs Q r q => by
  obtain ⟨v, rfl, rr⟩ := dvs1 r
  cases rr with
  | lst h1 h2 h3 => exact ⟨_, _, rfl, .inl (SqL.of h2), q _ (by rw [h3.length]; exact .int _)⟩
theorem ev_lenT (h : Ev K δ te (.tup xs)) : Ev K δ (tCB (rLenS K) (tCons te tNil)) (.int (xs.length : Int)) := ev_cb (eva_cons h eva_nil) fun F H vs Q r q => by
  obtain ⟨v, rfl, rr⟩ := dvs1 r
  cases rr with
  | tup h1 h2 => exact ⟨_, _, rfl, .inr h1, q _ (by rw [h2.length]; exact .int _)⟩
theorem ev_lenS {ns : List Int} (h : Ev K δ te (.scr ns)) : Ev K δ (tCB (rLenS K) (tCons te tNil)) (.int (ns.length : Int)) := ev_cb (eva_cons h eva_nil) fun F H vs Q r q => by
  obtain ⟨v, rfl, rr⟩ := dvs1 r
  cases rr with
  | scr h1 => exact ⟨_, _, rfl, .inl h1.sq, q _ (by rw [List.length_map]; exact .int _)⟩
theorem ev_sumL {ns : List Int} (h : Ev K δ te (.lst (ns.map D.int))) : Ev K δ (tCB (rSum K) (tCons te tNil)) (.int ns.sum) := ev_cb (eva_cons h eva_nil) fun F H vs Q r q => by
  obtain ⟨v, rfl, rr⟩ := dvs1 r
  cases rr with
  | lst h1 h2 h3 => exact ⟨_, ns, rfl, by rw [← h3.of_ints]; exact SqL.of h2, q _ (.int _)⟩
theorem ev_allL {bs : List Bool} (h : Ev K δ te (.lst (bs.map D.bl))) : Ev K δ (tCB (rAll K) (tCons te tNil)) (.bl (bs.all id)) := ev_cb (eva_cons h eva_nil) fun F H vs Q r q => by
  obtain ⟨v, rfl, rr⟩ := dvs1 r
  cases rr with
  | lst h1 h2 h3 => exact ⟨_, bs, rfl, by rw [← h3.of_bools]; exact SqL.of h2, q _ (.bl _)⟩
theorem ev_anyL {bs : List Bool} (h : Ev K δ te (.lst (bs.map D.bl))) : Ev K δ (tCB (rAny K) (tCons te tNil)) (.bl (bs.any id)) := ev_cb (eva_cons h eva_nil) fun F H vs Q r q => by
  obtain ⟨v, rfl, rr⟩ := dvs1 r
  cases rr with
  | lst h1 h2 h3 => exact ⟨_, bs, rfl, by rw [← h3.of_bools]; exact SqL.of h2, q _ (.bl _)⟩
abbrev rLof (K : PySem.W.Frag) : List V → Hp → VK → Prop := fun xs H Q => ∃ p ys, xs = [.ref p] ∧ (SqL K H p ys ∨ SqT K H p ys) ∧ ∀ l, H l = none → Q (.ref l) (upd H l (.lst ys))
theorem evl_ofL (h : Ev K δ te (.lst xs)) : Evl K δ (tCB (rLof K) (tCons te tNil)) xs := evl_cb (eva_cons h eva_nil) fun F H vs Q r q => by
  obtain ⟨v, rfl, rr⟩ := dvs1 r
  cases rr with
  | lst h1 h2 h3 => exact ⟨_, _, rfl, .inl (SqL.of h2), q _ h3⟩
theorem evl_ofT (h : Ev K δ te (.tup xs)) : Evl K δ (tCB (rLof K) (tCons te tNil)) xs := evl_cb (eva_cons h eva_nil) fun F H vs Q r q => by
  obtain ⟨v, rfl, rr⟩ := dvs1 r
  cases rr with
  | tup h1 h2 => exact ⟨_, _, rfl, .inr h1, q _ h2⟩
abbrev rTof (K : PySem.W.Frag) : List V → Hp → VK → Prop := fun xs H Q => ∃ p ys, xs = [.ref p] ∧ ((SqL K H p ys ∧ ∀ l, H l = none → Q (.ref l) (upd H l (.tup ys))) ∨ (SqT K H p ys ∧ Q (.ref p) H))
theorem ev_tofL (h : Ev K δ te (.lst xs)) : Ev K δ (tCB (rTof K) (tCons te tNil)) (.tup xs) := fun F0 H0 σ F H S Q q => eva_cons h eva_nil F0 H0 σ F H S _ fun vs F1 H1 g1 r => by
  obtain ⟨v, rfl, rr⟩ := dvs1 r
  cases rr with
  | lst h1 h2 h3 => exact ⟨_, _, rfl, .inl ⟨SqL.of h2, fun p hp => q (.ref p) F1 _ (g1.upd hp) (.tup (SqT.of upd_same) (DVs.le ((Gr.refl g1.dom).upd hp).le _ _ h3))⟩⟩
theorem ev_tofT (h : Ev K δ te (.tup xs)) : Ev K δ (tCB (rTof K) (tCons te tNil)) (.tup xs) := ev_cb (eva_cons h eva_nil) fun F H vs Q r q => by
  obtain ⟨v, rfl, rr⟩ := dvs1 r
  cases rr with
  | tup h1 h2 => exact ⟨_, _, rfl, .inr ⟨h1, q _ (.tup h1 h2)⟩⟩
/-! ### slices, + and * of lists -/
def cutD (xs : List D) (lo hi : Option Int) : List D := (xs.drop (HT.sIx xs.length 0 lo)).take (HT.sIx xs.length xs.length hi - HT.sIx xs.length 0 lo)
theorem evo_none : Evo K δ tNoPart none := fun _ _ _ F H S Q q => q F H (.refl S.dom)
theorem evo_some {i : Int} (h : Ev K δ te (.int i)) : Evo K δ (tPart te) (some i) := fun F0 H0 σ F H S Q q => h F0 H0 σ F H S _ fun v F1 H1 g r => by
  cases r
  exact ⟨i, rfl, q F1 H1 g⟩
theorem cut_dv {F : Fz} {H : Hp} {vs : List V} {lo hi : Option Int} (r : DVs K F H vs xs) : DVs K F H (cutV vs lo hi) (cutD xs lo hi) := by
  unfold cutV cutD
  rw [r.length]
  exact (r.drop _).take _
theorem evl_sl {tl th : TO} {lo hi : Option Int} (h : Ev K δ te (.lst xs)) (h1 : Evo K δ tl lo) (h2 : Evo K δ th hi) : Evl K δ (tSl (rSlL K) te tl th) (cutD xs lo hi) := fun F0 H0 σ F H S Q q =>
  h F0 H0 σ F H S _ fun v F1 H1 g1 r1 => h1 F0 H0 σ F1 H1 (S.go g1) _ fun F2 H2 g2 => h2 F0 H0 σ F2 H2 ((S.go g1).go g2) _ fun F3 H3 g3 => by
    have r3 := DV.le (g2.trans g3).le _ _ r1
    cases r3 with
    | lst a1 a2 a3 => exact ⟨_, _, rfl, SqL.of a2, new_l ((g1.trans g2).trans g3) (cut_dv a3) q⟩
theorem evl_cat {ys : List D} (ha : Ev K δ ta (.lst xs)) (hb : Ev K δ tb (.lst ys)) (hz : xs.length + ys.length ≤ 100000) : Evl K δ (tOp rCat ta tb) (xs ++ ys) := fun F0 H0 σ F H S Q q =>
  ha F0 H0 σ F H S _ fun v F1 H1 g1 r1 => hb F0 H0 σ F1 H1 (S.go g1) _ fun u F2 H2 g2 r2 => by
    have r1' := DV.le g2.le _ _ r1
    cases r1' with
    | lst a1 a2 a3 =>
      cases r2 with
      | lst b1 b2 b3 => exact ⟨_, _, _, _, rfl, rfl, a2, b2, by rw [a3.length, b3.length]; exact sz5 hz, new_l (g1.trans g2) (a3.append b3) q⟩
theorem replicate_one {α : Type} (n : Nat) (x : α) : (List.replicate n [x]).flatten = List.replicate n x := by
  induction n with
  | zero => rfl
  | succ n ih => rw [List.replicate_succ, List.replicate_succ, List.flatten_cons, ih] <;> rfl
theorem rep_dv {F : Fz} {H : Hp} {vs : List V} (r : DVs K F H vs xs) (n : Nat) : DVs K F H (List.replicate n vs).flatten (List.replicate n xs).flatten := by
  induction n with
  | zero => exact .nil
  | succ n ih =>
    rw [List.replicate_succ, List.replicate_succ, List.flatten_cons, List.flatten_cons]
    exact r.append ih
theorem evl_rep {k : Int} (ha : Ev K δ ta (.lst xs)) (hb : Ev K δ tb (.int k)) (hk : -100000 ≤ k ∧ k ≤ 100000) (hz : xs.length * k.toNat ≤ 100000) : Evl K δ (tOp rRep ta tb) (List.replicate k.toNat xs).flatten := fun F0 H0 σ F H S Q q =>
  ha F0 H0 σ F H S _ fun v F1 H1 g1 r1 => hb F0 H0 σ F1 H1 (S.go g1) _ fun u F2 H2 g2 r2 => by
    have r3 := DV.le g2.le _ _ r1
    cases r3 with
    | lst a1 a2 a3 =>
      cases r2
      exact ⟨_, k, _, rfl, rfl, a2, by omega, by omega, by rw [a3.length]; exact sz5 hz, new_l (g1.trans g2) (rep_dv a3 k.toNat) q⟩
/-- [x] * n -/
theorem evl_rep1 {k : Int} (ha : Ev K δ ta (.lst [x])) (hb : Ev K δ tb (.int k)) (hk : -100000 ≤ k ∧ k ≤ 100000) : Evl K δ (tOp rRep ta tb) (List.replicate k.toNat x) :=
  (evl_rep ha hb hk (by show 1 * k.toNat ≤ 100000; omega)).to (replicate_one _ _)
/-! ### own lists read where the answer keeps nothing of them -/
theorem ev_tmp {i : Nat} (h : δ[i]? = some (.own (.lst xs))) (hp : d.pure = true) (he : Ev K (δ.set i (.d (.lst xs))) te d) : Ev K δ te d := fun F0 H0 σ F H S Q q => by
  obtain ⟨a, e1, nf, gr, l, ⟨vs, ev, rv⟩, S2⟩ := S.freeze h
  refine he F0 H0 σ (add F a) H S2 Q fun v F' H' g r => q v F H' ⟨fun _ z => z, g.keep, fun b hb => .inl hb, fun b hb => g.dom b (g.sub b (.inl hb))⟩ (DV.any d v hp r)
theorem evt_tmp {i : Nat} {b : Bool} (h : δ[i]? = some (.own (.lst xs))) (he : Evt K (δ.set i (.d (.lst xs))) t b) : Evt K δ t b := fun F0 H0 σ F H S Q q => by
  obtain ⟨a, e1, nf, gr, l, ⟨vs, ev, rv⟩, S2⟩ := S.freeze h
  exact he F0 H0 σ (add F a) H S2 Q fun F' H' g => q F H' ⟨fun _ z => z, g.keep, fun b hb => .inl hb, fun b hb => g.dom b (g.sub b (.inl hb))⟩
theorem evl_tmp {i : Nat} {ys : List D} (h : δ[i]? = some (.own (.lst xs))) (hp : D.pures ys = true) (he : Evl K (δ.set i (.d (.lst xs))) te ys) : Evl K δ te ys := fun F0 H0 σ F H S Q q => by
  obtain ⟨a, e1, nf, gr, l, ⟨vs, ev, rv⟩, S2⟩ := S.freeze h
  refine he F0 H0 σ (add F a) H S2 Q fun p ws F' H' g hn nf2 e r => q p ws F H' ⟨fun _ z => z, g.keep, fun b hb => .inl hb, fun b hb => g.dom b (g.sub b (.inl hb))⟩ hn (fun z => nf2 (g.sub p (.inl z))) e (DVs.any ys ws hp r)
end
end L3
set_option Elab.async false
set_option linter.all false
set_option maxRecDepth 100000
set_option maxHeartbeats 4000000
/-! Walks, comprehensions, statements, calls over data. -/
namespace L3
open PySem PySem.Spec PyProof.Rows L2

/-! ### what is walked -/
structure ItOk (K : PySem.W.Frag) (J : It) (F1 : Fz) (H1 : Hp) (n : Nat) (item : Nat → D) : Prop where
  stop : ∀ F' H', Le F1 H1 F' H' → J.stop n H'
  go : ∀ i F' H', i < n → Le F1 H1 F' H' → J.go i H'
  yld : ∀ i x F' Hs H', i < n → Le F1 H1 F' Hs → (∀ a, F' a → ∃ o, Hs a = some o) → J.yld i Hs x H' → Gr F' Hs F' H' ∧ DV K F' H' x (item i)
/-- the walk wi gives n items -/
def Src (K : PySem.W.Frag) (δ : Env3) (wi : TI) (n : Nat) (item : Nat → D) : Prop := ∀ F0 H0 σ F H, Sta K F0 H0 δ σ F H → ∀ R : It → Hp → Prop, (∀ J F1 H1, Gr F H F1 H1 → ItOk K J F1 H1 n item → R J H1) → wi σ H R
section
variable {K : PySem.W.Frag} {δ : Env3} {ta tb tc te tl : TE} {tA : TA} {t u : TT} {d x y : D} {ds xs : List D}
theorem item_at {F : Fz} {H : Hp} {vs : List V} {i : Nat} {v : V} (r : DVs K F H vs xs) (e : vs[i]? = some v) : DV K F H v (xs.getD i .non) := by
  obtain ⟨d, e1, e2⟩ := r.getV e
  rw [List.getD_eq_getElem?_getD, e1]
  exact e2
theorem dv_at {F : Fz} {H : Hp} {vs : List V} {i : Nat} (r : DVs K F H vs xs) (h : i < xs.length) : ∃ v, vs[i]? = some v := by
  rw [← r.length] at h
  exact ⟨vs[i], by simp [h]⟩
theorem src_list (h : Ev K δ tl (.lst xs)) : Src K δ (iList K tl) xs.length (fun i => xs.getD i .non) := fun F0 H0 σ F H S R q => h F0 H0 σ F H S _ fun v F1 H1 g1 r1 => by
  cases r1 with
  | @lst a vs _ h1 h2 h3 =>
    refine ⟨a, rfl, ⟨vs, SqL.of h2⟩, q _ F1 H1 g1 ⟨fun F' H' l => ⟨vs, SqL.of (l.keep _ _ h1 h2), by rw [h3.length]; exact Nat.le_refl _⟩, fun i F' H' hi l => ?_, fun i x F' Hs H' hi l dm y => ?_⟩⟩
    · obtain ⟨v, e⟩ := dv_at h3 hi
      exact ⟨vs, v, SqL.of (l.keep _ _ h1 h2), e⟩
    · obtain ⟨rfl, y⟩ := y
      exact ⟨.refl dm, item_at (DVs.le l _ _ h3) (y vs (SqL.of (l.keep _ _ h1 h2)))⟩
theorem src_tup (h : Ev K δ tl (.tup xs)) : Src K δ (iTup K tl) xs.length (fun i => xs.getD i .non) := fun F0 H0 σ F H S R q => h F0 H0 σ F H S _ fun v F1 H1 g1 r1 => by
  cases r1 with
  | @tup a vs _ h1 h3 =>
    refine ⟨a, rfl, ⟨vs, h1⟩, q _ F1 H1 g1 ⟨fun F' H' l => ⟨vs, sqt_le l h1, by rw [h3.length]; exact Nat.le_refl _⟩, fun i F' H' hi l => ?_, fun i x F' Hs H' hi l dm y => ?_⟩⟩
    · obtain ⟨v, e⟩ := dv_at h3 hi
      exact ⟨vs, v, sqt_le l h1, e⟩
    · obtain ⟨rfl, y⟩ := y
      exact ⟨.refl dm, item_at (DVs.le l _ _ h3) (y vs (sqt_le l h1))⟩
theorem itr_ok {F1 : Fz} {H1 : Hp} (lo : Int) (n : Nat) : ItOk K (Itr lo n) F1 H1 n (fun i => .int (lo + (i : Int))) :=
  ⟨fun _ _ _ => Nat.le_refl n, fun i _ _ hi _ => hi, fun i x F' Hs H' hi l dm y => by
    obtain ⟨rfl, rfl⟩ := y
    exact ⟨.refl dm, .int _⟩⟩
theorem src_rng1 {n : Int} (h : Eva K δ tA [.int n]) (hn : -100000 ≤ n ∧ n ≤ 100000) : Src K δ (iRng1 tA) n.toNat (fun i => .int (i : Int)) := fun F0 H0 σ F H S R q => h F0 H0 σ F H S _ fun vs F1 H1 g1 r1 => by
  obtain ⟨v, rfl, r2⟩ := dvs1 r1
  cases r2
  refine ⟨n, rfl, by omega, by omega, q _ F1 H1 g1 ?_⟩
  have e : (fun i : Nat => D.int ((0 : Int) + (i : Int))) = fun i : Nat => D.int (i : Int) := by
    funext i
    rw [Int.zero_add]
  rw [← e]
  exact itr_ok 0 n.toNat
theorem src_rng2 {lo n : Int} (h : Eva K δ tA [.int lo, .int n]) (hn : (-100000 ≤ lo ∧ lo ≤ 100000) ∧ -100000 ≤ n ∧ n ≤ 100000) : Src K δ (iRng2 tA) (n - lo).toNat (fun i => .int (lo + (i : Int))) := fun F0 H0 σ F H S R q => h F0 H0 σ F H S _ fun vs F1 H1 g1 r1 => by
  obtain ⟨v, w, rfl, r2, r3⟩ := dvs2 r1
  cases r2
  cases r3
  exact ⟨lo, n, rfl, ⟨by omega, by omega, by omega, by omega⟩, q _ F1 H1 g1 (itr_ok lo _)⟩
theorem src_enum (h : Eva K δ tA [.lst xs]) : Src K δ (iEnum K tA) xs.length (fun i => .tup [.int (i : Int), xs.getD i .non]) := fun F0 H0 σ F H S R q => h F0 H0 σ F H S _ fun vs0 F1 H1 g1 r1 => by
  obtain ⟨v, rfl, r2⟩ := dvs1 r1
  cases r2 with
  | @lst a vs _ h1 h2 h3 =>
    refine ⟨a, vs, rfl, SqL.of h2, q _ F1 H1 g1 ⟨fun F' H' l => ⟨vs, SqL.of (l.keep _ _ h1 h2), by rw [h3.length]; exact Nat.le_refl _⟩, fun i F' H' hi l => ?_, fun i x F' Hs H' hi l dm y => ?_⟩⟩
    · obtain ⟨v, e⟩ := dv_at h3 hi
      exact ⟨vs, v, SqL.of (l.keep _ _ h1 h2), e⟩
    · obtain ⟨T, x1, rfl, hT, rfl, y⟩ := y
      have g := (Gr.refl dm).upd (o := HO.tup [.int (i : Nat), x1]) hT
      exact ⟨g, .tup (SqT.of upd_same) (.cons (.int _) (.cons (DV.le g.le _ _ (item_at (DVs.le l _ _ h3) (y vs (SqL.of (l.keep _ _ h1 h2))))) .nil))⟩
theorem src_zip {ys : List D} (h : Eva K δ tA [.lst xs, .lst ys]) (hl : xs.length = ys.length) : Src K δ (iZip K tA) xs.length (fun i => .tup [xs.getD i .non, ys.getD i .non]) := fun F0 H0 σ F H S R q => h F0 H0 σ F H S _ fun vs0 F1 H1 g1 r1 => by
  obtain ⟨v, w, rfl, r2, r3⟩ := dvs2 r1
  cases r2 with
  | @lst a vs _ h1 h2 h3 =>
    cases r3 with
    | @lst b ws _ k1 k2 k3 =>
      refine ⟨a, b, vs, ws, rfl, SqL.of h2, SqL.of k2, q _ F1 H1 g1 ⟨fun F' H' l => ⟨vs, ws, SqL.of (l.keep _ _ h1 h2), SqL.of (l.keep _ _ k1 k2), .inl (by rw [h3.length]; exact Nat.le_refl _)⟩, fun i F' H' hi l => ?_, fun i x F' Hs H' hi l dm y => ?_⟩⟩
      · obtain ⟨v, e⟩ := dv_at h3 hi
        obtain ⟨w, e2⟩ := dv_at k3 (by rw [← hl]; exact hi)
        exact ⟨vs, ws, v, w, SqL.of (l.keep _ _ h1 h2), SqL.of (l.keep _ _ k1 k2), e, e2⟩
      · obtain ⟨T, x1, y1, rfl, hT, rfl, y, y2⟩ := y
        have g := (Gr.refl dm).upd (o := HO.tup [x1, y1]) hT
        exact ⟨g, .tup (SqT.of upd_same) (.cons (DV.le g.le _ _ (item_at (DVs.le l _ _ h3) (y vs (SqL.of (l.keep _ _ h1 h2))))) (.cons (DV.le g.le _ _ (item_at (DVs.le l _ _ k3) (y2 ws (SqL.of (l.keep _ _ k1 k2))))) .nil))⟩

/-! ### targets -/
/-- the item x is assigned; js: the slots that change -/
def GD (K : PySem.W.Frag) (js : List Nat) (g : TG) (x : D) (δ : Env3) (P : Env3 → Prop) : Prop := ∀ F0 H0 σ F H v, Sta K F0 H0 δ σ F H → DV K F H v x → ∀ Q : L2.St → Hp → Prop,
  (∀ δ2 σ2, P δ2 → Sta K F0 H0 δ2 σ2 F H → (∀ vs, (∀ j ∈ js, j ∈ vs) → wipe σ2 vs = wipe σ vs) → Q σ2 H) → g v σ H Q
theorem wipe_get (vs : List Nat) : ∀ (σ : L2.St) (k : Nat), (wipe σ vs)[k]? = if k ∈ vs then (if k < σ.length then some none else none) else σ[k]? := by
  induction vs with
  | nil =>
    intro σ k
    simp [wipe]
  | cons j vs ih =>
    intro σ k
    show ((wipe σ vs).set j none)[k]? = _
    rw [List.getElem?_set, ih, wipe_length]
    by_cases e : j = k
    · subst e
      simp
    · have e2 : k ≠ j := fun z => e z.symm
      simp [e, e2]
theorem wipe_set {σ : L2.St} {j : Nat} {v : Option V} {vs : List Nat} (h : j ∈ vs) : wipe (σ.set j v) vs = wipe σ vs := by
  apply List.ext_getElem?
  intro k
  rw [wipe_get, wipe_get, List.length_set]
  by_cases e : k ∈ vs
  · simp [e]
  · have ne : j ≠ k := fun z => e (z ▸ h)
    rw [if_neg e, if_neg e, List.getElem?_set_ne ne]
theorem wipe_wipe (σ : L2.St) (vs : List Nat) : wipe (wipe σ vs) vs = wipe σ vs := by
  apply List.ext_getElem?
  intro k
  rw [wipe_get, wipe_get, wipe_length]
  by_cases e : k ∈ vs
  · simp [e]
  · simp [e, wipe_get]
theorem gd_name {j : Nat} {P : Env3 → Prop} (h : P (δ.set j (.d x))) : GD K [j] (gName j) x δ P := fun F0 H0 σ F H v S r Q q =>
  q _ _ h (S.setd j r) fun vs hv => wipe_set (hv j List.mem_cons_self)
/-- several targets -/
def GDs (K : PySem.W.Frag) (js : List Nat) (g : TGs) (xs : List D) (δ : Env3) (P : Env3 → Prop) : Prop := ∀ F0 H0 σ F H vs, Sta K F0 H0 δ σ F H → DVs K F H vs xs → ∀ Q : L2.St → Hp → Prop,
  (∀ δ2 σ2, P δ2 → Sta K F0 H0 δ2 σ2 F H → (∀ ws, (∀ j ∈ js, j ∈ ws) → wipe σ2 ws = wipe σ ws) → Q σ2 H) → g vs σ H Q
theorem gds_nil {P : Env3 → Prop} (h : P δ) : GDs K [] gNil [] δ P := fun F0 H0 σ F H vs S r Q q => by
  cases r
  exact ⟨rfl, q _ _ h S fun _ _ => rfl⟩
theorem gds_cons {js ks : List Nat} {g : TG} {gs : TGs} {P : Env3 → Prop} (h : GD K js g x δ fun δ2 => GDs K ks gs xs δ2 P) : GDs K (js ++ ks) (gCons g gs) (x :: xs) δ P := fun F0 H0 σ F H vs S r Q q => by
  cases r with
  | cons r1 r2 =>
    refine ⟨_, _, rfl, h F0 H0 σ F H _ S r1 _ fun δ2 σ2 p S2 w2 => p F0 H0 σ2 F H _ S2 r2 Q fun δ3 σ3 p3 S3 w3 => q δ3 σ3 p3 S3 fun ws hw => ?_⟩
    rw [w3 ws fun j hj => hw j (List.mem_append_right _ hj), w2 ws fun j hj => hw j (List.mem_append_left _ hj)]
theorem gd_tup {js : List Nat} {gs : TGs} {n : Nat} {P : Env3 → Prop} (h : GDs K js gs xs δ P) (hl : xs.length = n := by rfl) : GD K js (gTup K n gs) (.tup xs) δ P := fun F0 H0 σ F H v S r Q q => by
  cases r with
  | tup h1 h2 => exact ⟨_, _, rfl, h1, h2.length.trans hl, h F0 H0 σ F H _ S h2 Q q⟩
theorem gd_tup2 {i j : Nat} {P : Env3 → Prop} (h : P ((δ.set i (.d x)).set j (.d y))) : GD K [i, j] (gTup K 2 (gCons (gName i) (gCons (gName j) gNil))) (.tup [x, y]) δ P :=
  gd_tup (gds_cons (js := [i]) (ks := [j]) (gd_name (gds_cons (js := [j]) (ks := []) (gd_name (gds_nil h)))))

/-! ### comprehensions -/
def wipeD (δ : Env3) : List Nat → Env3
  | [] => δ
  | j :: js => (wipeD δ js).set j .un
theorem sta_wipe {F0 : Fz} {H0 : Hp} {σ : L2.St} {F : Fz} {H : Hp} (S : Sta K F0 H0 δ σ F H) : ∀ js, Sta K F0 H0 (wipeD δ js) (wipe σ js) F H
  | [] => S
  | j :: js => (sta_wipe S js).setun none j
theorem range_step {α : Type} {p : Nat → Bool} {e : Nat → α} {i : Nat} : ((List.range (i + 1)).filter p).map e = ((List.range i).filter p).map e ++ if p i = true then [e i] else [] := by
  rw [List.range_succ, List.filter_append, List.map_append, List.filter_cons]
  cases p i <;> simp
theorem evl_lc {wi : TI} {g : TG} {tt : TT} {own js : List Nat} {n : Nat} {item : Nat → D} (p : Nat → Bool) (e : Nat → D) (hs : Src K δ wi n item) (hn : n ≤ 100000) (hj : ∀ j ∈ js, j ∈ own)
    (hb : ∀ i, i < n → GD K js g (item i) (wipeD δ own) fun δ2 => Evt K δ2 tt (p i) ∧ (p i = true → Ev K δ2 te (e i))) : Evl K δ (tLc wi g tt te own) (((List.range n).filter p).map e) := fun F0 H0 σ F H S Q q =>
  hs F0 H0 σ F H S _ fun J F1 H1 g1 ok D hD => by
    have S1 := S.go g1
    have nFD : ¬ F1 D := fun z => by
      obtain ⟨o, e1⟩ := g1.dom D z
      rw [hD] at e1
      cases e1
    refine ⟨fun i m H' => m = n - i ∧ i ≤ n ∧ ∃ F' vs, Gr F1 H1 F' H' ∧ ¬ F' D ∧ H' D = some (.lst vs) ∧ DVs K F' H' vs (((List.range i).filter p).map e),
      ⟨n, rfl, Nat.zero_le _, F1, [], (Gr.refl g1.dom).upd hD, nFD, upd_same, .nil⟩, ?_⟩
    rintro i m H' ⟨rfl, hi, F', vs, gr, nf, eD, rv⟩
    by_cases hlt : i < n
    · refine .inr ⟨ok.go i F' H' hlt gr.le, fun H'' => i + 1 ≤ n ∧ ∃ F' vs, Gr F1 H1 F' H'' ∧ ¬ F' D ∧ H'' D = some (.lst vs) ∧ DVs K F' H'' vs (((List.range (i + 1)).filter p).map e), fun H'' h => ⟨n - (i + 1), by omega, rfl, h⟩, fun x H2 y => ?_⟩
      obtain ⟨g2, r2⟩ := ok.yld i x F' H' H2 hlt gr.le gr.dom y
      have g12 := gr.trans g2
      have S2 := sta_wipe (S1.go g12) own
      refine hb i hlt F0 H0 (wipe σ own) F' H2 x S2 r2 _ fun δ2 σ2 pp S3 w2 => ⟨(w2 own hj).trans (wipe_wipe σ own), ?_⟩
      obtain ⟨ht, he⟩ := pp
      have eD2 := g2.keep _ _ eD
      have rv2 := DVs.le g2.le _ _ rv
      refine ht F0 H0 σ2 F' H2 S3 _ fun F3 H3 g3 => ?_
      cases hp : p i with
      | true =>
        rw [if_pos rfl]
        refine he hp F0 H0 σ2 F3 H3 (S3.go g3) _ fun v F4 H4 g4 r4 => ?_
        have g24 := g3.trans g4
        have eD4 := g24.keep _ _ eD2
        have nf4 : ¬ F4 D := fun z => by
          rcases g24.new D z with z | z
          · exact nf z
          · rw [eD2] at z
            cases z
        have l4 : Le F4 H4 F4 (upd H4 D (.lst (vs ++ [v]))) := Le.mut nf4 eD4 trivial
        refine ⟨vs, eD4, ?_, hlt, F4, vs ++ [v], ?_, nf4, upd_same, ?_⟩
        · have z1 := rv.length
          have z2 := List.length_filter_le p (List.range i)
          rw [List.length_map] at z1
          rw [List.length_range] at z2
          exact sz5l (by omega)
        · have g14 := g12.trans g24
          refine ⟨g14.sub, fun a o ea => ?_, g14.new, fun a ha => ?_⟩
          · rw [upd_ne (ne_of_none ea hD)]
            exact g14.keep a o ea
          · obtain ⟨o, eo⟩ := g14.dom a ha
            exact ⟨o, l4.keep a o ha eo⟩
        · rw [range_step, hp, if_pos rfl]
          exact DVs.append (DVs.le (Le.trans g24.le l4) _ _ rv2) (.one (DV.le l4 _ _ r4))
      | false =>
        rw [if_neg Bool.false_ne_true]
        refine ⟨hlt, F3, vs, g12.trans g3, fun z => ?_, g3.keep _ _ eD2, ?_⟩
        · rcases g3.new D z with z | z
          · exact nf z
          · rw [eD2] at z
            cases z
        · rw [range_step, hp, if_neg Bool.false_ne_true, List.append_nil]
          exact DVs.le g3.le _ _ rv2
    · have ei : i = n := by omega
      subst ei
      exact .inl ⟨ok.stop F' H' gr.le, q D vs F' H' (g1.trans gr) (g1.back hD) nf eD rv⟩
/-- over a list of encoded items -/
theorem range_map {α β : Type} (l : List α) (z : α) (f : α → β) : (List.range l.length).map (fun i => f (l.getD i z)) = l.map f := by
  apply List.ext_getElem
  · simp
  · intro i h1 h2
    simp at h1
    simp [h1]
theorem range_filter_map {α β : Type} (l : List α) (z : α) (p : α → Bool) (f : α → β) : ((List.range l.length).filter fun i => p (l.getD i z)).map (fun i => f (l.getD i z)) = (l.filter p).map f := by
  have h1 : (List.range l.length).map (fun i => l.getD i z) = l := by
    have := range_map l z (fun a => a)
    simpa using this
  have h2 : ((List.range l.length).filter fun i => p (l.getD i z)).map (fun i => f (l.getD i z)) = (((List.range l.length).map (fun i => l.getD i z)).filter p).map f := by
    rw [List.filter_map, List.map_map]
    rfl
  rw [h2, h1]

/-! ### statements -/
/-- what a def hands back: data, a new list, an instance that was being made; an exception -/
inductive Rs where
  | d (x : D) | l (xs : List D) | exc (C : Addr) (f : Str) (x : D)
structure De where
  nx : Env3 → Prop
  rt : Rs → Prop
  bk : Env3 → Prop := fun _ => False
  ct : Env3 → Prop := fun _ => False
/-- a def's start, and a state passed since -/
structure Bs where
  F0 : Fz
  H0 : Hp
  Fb : Fz
  Hb : Hp
structure Lk (K : PySem.W.Frag) (B : Bs) (F : Fz) (H : Hp) (D' : De) (Dn : Ends) : Prop where
  ba : Le B.Fb B.Hb F H
  nx : ∀ δ σ F' H', D'.nx δ → Sta K B.F0 B.H0 δ σ F' H' → Le F H F' H' → Dn.nx σ H'
  bk : ∀ δ σ F' H', D'.bk δ → Sta K B.F0 B.H0 δ σ F' H' → Le F H F' H' → Dn.bk σ H'
  ct : ∀ δ σ F' H', D'.ct δ → Sta K B.F0 B.H0 δ σ F' H' → Le F H F' H' → Dn.ct σ H'
  rd : ∀ x v F' H', D'.rt (.d x) → Gr B.F0 B.H0 F' H' → DV K F' H' v x → Dn.rt v H'
  rl : ∀ xs a vs F' H', D'.rt (.l xs) → Gr B.F0 B.H0 F' H' → B.H0 a = none → ¬ F' a → H' a = some (.lst vs) → DVs K F' H' vs xs → Dn.rt (.ref a) H'
theorem Lk.from {B : Bs} {F F2 : Fz} {H H2 : Hp} {D' : De} {Dn : Ends} (L : Lk K B F H D' Dn) (l : Le F H F2 H2) : Lk K B F2 H2 D' Dn :=
  ⟨L.ba.trans l, fun δ σ F' H' p S l2 => L.nx δ σ F' H' p S (l.trans l2), fun δ σ F' H' p S l2 => L.bk δ σ F' H' p S (l.trans l2), fun δ σ F' H' p S l2 => L.ct δ σ F' H' p S (l.trans l2), L.rd, L.rl⟩
/-- the statement t in the slots δ reaches the ends D' -/
def SD (K : PySem.W.Frag) (B : Bs) (t : TS) (δ : Env3) (D' : De) : Prop := ∀ σ F H Dn, Sta K B.F0 B.H0 δ σ F H → Lk K B F H D' Dn → t Dn σ H
end
section
variable {K : PySem.W.Frag} {B : Bs} {δ : Env3} {ta tb tc te tl : TE} {tA : TA} {tt : TT} {t u w : TS} {d x y : D} {ds xs : List D} {D' : De} {i : Nat}
theorem q_seq (h : SD K B t δ { D' with nx := fun δ2 => SD K B u δ2 D' }) : SD K B (tSeq t u) δ D' := fun σ F H Dn S L =>
  h σ F H { Dn with nx := u Dn } S ⟨L.ba, fun δ2 σ2 F2 H2 p S2 l => p σ2 F2 H2 Dn S2 (L.from l), L.bk, L.ct, L.rd, L.rl⟩
theorem s_next (h : D'.nx δ) : SD K B tNext δ D' := fun σ F H Dn S L => L.nx δ σ F H h S (.refl F H)
theorem s_break (h : D'.bk δ) : SD K B tBreak δ D' := fun σ F H Dn S L => L.bk δ σ F H h S (.refl F H)
theorem s_cont (h : D'.ct δ) : SD K B tCont δ D' := fun σ F H Dn S L => L.ct δ σ F H h S (.refl F H)
theorem s_asg {g : TG} {js : List Nat} (h : Ev K δ te d) (hg : GD K js g d δ D'.nx) : SD K B (tAsg te g) δ D' := fun σ F H Dn S L => h _ _ σ F H S _ fun v F1 H1 g1 r1 =>
  hg _ _ σ F1 H1 v (S.go g1) r1 _ fun δ2 σ2 p S2 _ => L.nx δ2 σ2 F1 H1 p S2 g1.le
theorem s_set (h : Ev K δ te d) (k : D'.nx (δ.set i (.d d))) : SD K B (tAsg te (gName i)) δ D' := s_asg h (gd_name k)
theorem s_setl (h : Evl K δ te xs) (k : D'.nx (δ.set i (.own (.lst xs)))) : SD K B (tAsg te (gName i)) δ D' := fun σ F H Dn S L => h _ _ σ F H S _ fun a vs F1 H1 g1 ha nf e r =>
  L.nx _ _ F1 H1 k (S.setown g1 i ha e ⟨vs, rfl, r⟩ nf) g1.le
theorem s_drop (h : Ev K δ te d) (k : D'.nx δ) : SD K B (tDrop te) δ D' := fun σ F H Dn S L => h _ _ σ F H S _ fun v F1 H1 g1 r1 => L.nx δ σ F1 H1 k (S.go g1) g1.le
theorem s_ret (h : Ev K δ te d) (k : D'.rt (.d d)) : SD K B (tRet te) δ D' := fun σ F H Dn S L => h _ _ σ F H S _ fun v F1 H1 g1 r1 => L.rd d v F1 H1 k (S.gr.trans g1) r1
theorem s_retN (k : D'.rt (.d .non)) : SD K B tRetN δ D' := fun σ F H Dn S L => L.rd _ _ F H k S.gr .non
theorem s_retl (h : Evl K δ te xs) (k : D'.rt (.l xs)) : SD K B (tRet te) δ D' := fun σ F H Dn S L => h _ _ σ F H S _ fun a vs F1 H1 g1 ha nf e r => L.rl xs a vs F1 H1 k (S.gr.trans g1) (S.gr.back ha) nf e r
/-- an own list is handed back -/
theorem s_reto (h : δ[i]? = some (.own (.lst xs))) (k : D'.rt (.l xs)) : SD K B (tRet (tVar i)) δ D' := fun σ F H Dn S L => by
  obtain ⟨a, o, e1, e2, ⟨vs, rfl, r⟩, nf, h0, _⟩ := S.own h
  exact ⟨_, e1, L.rl xs a vs F H k S.gr h0 nf e2 r⟩
theorem s_if {b : Bool} (h : Evt K δ tt b) (h1 : b = true → SD K B t δ D') (h2 : b = false → SD K B u δ D') : SD K B (tIfS tt t u) δ D' := fun σ F H Dn S L => h _ _ σ F H S _ fun F1 H1 g1 => by
  cases b with
  | true =>
    rw [if_pos rfl]
    exact h1 rfl σ F1 H1 Dn (S.go g1) (L.from g1.le)
  | false =>
    rw [if_neg Bool.false_ne_true]
    exact h2 rfl σ F1 H1 Dn (S.go g1) (L.from g1.le)
/-- an own list becomes data -/
theorem s_freeze (i : Nat) (h : δ[i]? = some (.own (.lst xs))) (k : SD K B t (δ.set i (.d (.lst xs))) D') : SD K B t δ D' := fun σ F H Dn S L => by
  obtain ⟨a, e1, nf, gr, l, _, S2⟩ := S.freeze h
  exact k σ (add F a) H Dn S2 (L.from l)
theorem s_app (h : δ[i]? = some (.own (.lst xs))) (he : Ev K δ te d) (hz : xs.length < 100000) (k : D'.nx (δ.set i (.own (.lst (xs ++ [d]))))) : SD K B (tDrop (tBM K "list" rAppend (tVar i) (tCons te tNil))) δ D' := fun σ F H Dn S L => by
  obtain ⟨a, o, e1, e2, ⟨vs, rfl, r⟩, _⟩ := S.own h
  refine ⟨_, e1, .inl ⟨rfl, vs, SqL.of e2⟩, he _ _ σ F H S _ fun v F1 H1 g1 r1 => ?_⟩
  obtain ⟨a2, o2, e3, e4, ⟨ws, rfl, rw'⟩, nf, h0, wr⟩ := (S.go g1).own h
  rw [e1] at e3
  cases e3
  have l : Le F1 H1 F1 (upd H1 a (.lst (ws ++ [v]))) := Le.mut nf e4 trivial
  obtain ⟨S2, l2⟩ := wr (.lst (ws ++ [v])) (.lst (xs ++ [d])) ⟨_, rfl, (DVs.le l _ _ rw').append (.one (DV.le l _ _ r1))⟩
  exact ⟨a, ws, v, rfl, rfl, e4, by rw [rw'.length]; exact sz5l hz, L.nx _ _ F1 _ k S2 (g1.le.trans l2)⟩
/-- xs[k] = e, an own list -/
theorem s_seto {k : Int} {j : Nat} (h : δ[i]? = some (.own (.lst xs))) (he : Ev K δ te d) (hi : Ev K δ tb (.int k)) (hj : ixN xs.length k = some j) (kk : D'.nx (δ.set i (.own (.lst (xs.set j d))))) : SD K B (tAsg te (gSub (tVar i) tb rSetL)) δ D' := fun σ F H Dn S L =>
  he _ _ σ F H S _ fun v F1 H1 g1 r1 => by
    obtain ⟨a, o, e1, _⟩ := (S.go g1).own h
    refine ⟨_, e1, hi _ _ σ F1 H1 (S.go g1) _ fun w F2 H2 g2 r2 => ?_⟩
    cases r2
    obtain ⟨a2, o2, e3, e4, ⟨ws, rfl, rw'⟩, nf, h0, wr⟩ := ((S.go g1).go g2).own h
    rw [e1] at e3
    cases e3
    have l : Le F2 H2 F2 (upd H2 a (.lst (ws.set j v))) := Le.mut nf e4 trivial
    obtain ⟨S2, l2⟩ := wr (.lst (ws.set j v)) (.lst (xs.set j d)) ⟨_, rfl, DVs.set j (DVs.le l _ _ rw') (DV.le (g2.le.trans l) _ _ r1)⟩
    exact ⟨a, ws, k, j, rfl, rfl, e4, by rw [rw'.length]; exact hj, L.nx _ _ F2 _ kk S2 ((g1.le.trans g2.le).trans l2)⟩
/-- x op= e, ints -/
theorem s_aug {f : Int → Int → Int} {m n : Int} (hx : δ[i]? = some (.d (.int m))) (h : Ev K δ te (.int n)) (k : D'.nx (δ.set i (.d (.int (f m n))))) : SD K B (tAug i te (ipI f)) δ D' := fun σ F H Dn S L => by
  obtain ⟨v, e, r⟩ := S.d hx
  cases r
  refine ⟨_, e, h _ _ σ F H S _ fun w F1 H1 g1 r1 => ?_⟩
  cases r1
  exact ⟨m, n, rfl, rfl, L.nx _ _ F1 H1 k ((S.go g1).setd i (.int _)) g1.le⟩
/-- own list item op= e, ints -/
theorem s_augo {f : Int → Int → Int} {k m n : Int} {j : Nat} (h : δ[i]? = some (.own (.lst xs))) (hi : Ev K δ tb (.int k)) (hj : ixN xs.length k = some j) (hm : xs[j]? = some (.int m)) (he : Ev K δ te (.int n)) (kk : D'.nx (δ.set i (.own (.lst (xs.set j (.int (f m n))))))) :
    SD K B (tAugS (tVar i) tb te (rIxL K) (ipI f) rSetL) δ D' := fun σ F H Dn S L => by
  obtain ⟨a, o, e1, _⟩ := S.own h
  refine ⟨_, e1, hi _ _ σ F H S _ fun w F1 H1 g1 r1 => ?_⟩
  cases r1
  obtain ⟨a2, o2, e3, e4, ⟨ws, rfl, rw'⟩, nf, h0, wr⟩ := (S.go g1).own h
  rw [e1] at e3
  cases e3
  obtain ⟨v, e5, r5⟩ := rw'.get hm
  cases r5
  refine ⟨a, ws, k, .int m, rfl, rfl, SqL.of e4, ?_, he _ _ σ F1 H1 (S.go g1) _ fun w2 F2 H2 g2 r2 => ?_⟩
  · unfold atI
    rw [rw'.length, hj]
    exact e5
  · cases r2
    refine ⟨m, n, rfl, rfl, ?_⟩
    obtain ⟨a2, o2, e6, e7, ⟨zs, rfl, rz⟩, nf, h0, wr⟩ := ((S.go g1).go g2).own h
    rw [e1] at e6
    cases e6
    have l : Le F2 H2 F2 (upd H2 a (.lst (zs.set j (.int (f m n))))) := Le.mut nf e7 trivial
    obtain ⟨S2, l2⟩ := wr (.lst (zs.set j (.int (f m n)))) (.lst (xs.set j (.int (f m n)))) ⟨_, rfl, DVs.set j (DVs.le l _ _ rz) (.int _)⟩
    exact ⟨a, zs, k, j, rfl, rfl, e7, by rw [rz.length]; exact hj, L.nx _ _ F2 _ kk S2 ((g1.le.trans g2.le).trans l2)⟩
/-! ### loops -/
theorem s_for {wi : TI} {g : TG} {js : List Nat} {n : Nat} {item : Nat → D} (hs : Src K δ wi n item) (W : Nat → Env3 → Prop) (h0 : W 0 δ)
    (hb : ∀ i δ2, i < n → W i δ2 → GD K js g (item i) δ2 fun δ3 => SD K B t δ3 { D' with nx := W (i + 1), ct := W (i + 1), bk := D'.nx }) (hd : ∀ δ2, W n δ2 → D'.nx δ2) : SD K B (tFor wi g t) δ D' := fun σ F H Dn S L =>
  hs _ _ σ F H S _ fun J F1 H1 g1 ok => by
    refine ⟨fun i m σ H => m = n - i ∧ i ≤ n ∧ ∃ δ2 F2, W i δ2 ∧ Sta K B.F0 B.H0 δ2 σ F2 H ∧ Le F1 H1 F2 H, ⟨n, rfl, Nat.zero_le _, δ, F1, h0, S.go g1, .refl _ _⟩, ?_⟩
    rintro i m σ2 H2 ⟨rfl, hi, δ2, F2, w2, S2, l2⟩
    by_cases hlt : i < n
    · refine .inr ⟨ok.go i F2 H2 hlt l2, fun σ' H' => i + 1 ≤ n ∧ ∃ δ2 F2, W (i + 1) δ2 ∧ Sta K B.F0 B.H0 δ2 σ' F2 H' ∧ Le F1 H1 F2 H', fun σ' H' h => ⟨n - (i + 1), by omega, rfl, h⟩, fun v H3 y => ?_⟩
      obtain ⟨g3, r3⟩ := ok.yld i v F2 H2 H3 hlt l2 S2.dom y
      refine hb i δ2 hlt w2 _ _ σ2 F2 H3 v (S2.go g3) r3 _ fun δ4 σ4 p S4 _ => p σ4 F2 H3 _ S4 ?_
      have l3 : Le F1 H1 F2 H3 := l2.trans g3.le
      exact ⟨L.ba.trans (g1.le.trans l3), fun δ5 σ5 F5 H5 q S5 l5 => ⟨hlt, δ5, F5, q, S5, l3.trans l5⟩, fun δ5 σ5 F5 H5 q S5 l5 => L.nx δ5 σ5 F5 H5 q S5 ((g1.le.trans l3).trans l5), fun δ5 σ5 F5 H5 q S5 l5 => ⟨hlt, δ5, F5, q, S5, l3.trans l5⟩, L.rd, L.rl⟩
    · have ei : i = n := by omega
      subst ei
      exact .inl ⟨ok.stop F2 H2 l2, L.nx δ2 σ2 F2 H2 (hd δ2 w2) S2 (g1.le.trans l2)⟩
theorem s_while (W : Nat → Env3 → Prop) (m0 : Nat) (h0 : W m0 δ)
    (hb : ∀ m δ2, W m δ2 → ∃ b, Evt K δ2 tt b ∧ (b = true → SD K B t δ2 { D' with nx := fun δ3 => ∃ m', m' < m ∧ W m' δ3, ct := fun δ3 => ∃ m', m' < m ∧ W m' δ3, bk := D'.nx }) ∧ (b = false → D'.nx δ2)) : SD K B (tWhile tt t) δ D' := fun σ F H Dn S L => by
  refine ⟨fun m σ H' => ∃ δ2 F2, W m δ2 ∧ Sta K B.F0 B.H0 δ2 σ F2 H' ∧ Le F H F2 H', ⟨m0, δ, F, h0, S, .refl _ _⟩, ?_⟩
  rintro m σ2 H2 ⟨δ2, F2, w2, S2, l2⟩
  obtain ⟨b, ht, hy, hn⟩ := hb m δ2 w2
  refine ht _ _ σ2 F2 H2 S2 _ fun F3 H3 g3 => ?_
  have l3 := l2.trans g3.le
  cases b with
  | true =>
    rw [if_pos rfl]
    refine ⟨fun σ' H' => ∃ m', m' < m ∧ ∃ δ2 F2, W m' δ2 ∧ Sta K B.F0 B.H0 δ2 σ' F2 H' ∧ Le F H F2 H', fun σ' H' h => h, hy rfl σ2 F3 H3 _ (S2.go g3) ?_⟩
    exact ⟨L.ba.trans l3, fun δ5 σ5 F5 H5 q S5 l5 => let ⟨m', hm, q⟩ := q; ⟨m', hm, δ5, F5, q, S5, l3.trans l5⟩, fun δ5 σ5 F5 H5 q S5 l5 => L.nx δ5 σ5 F5 H5 q S5 (l3.trans l5), fun δ5 σ5 F5 H5 q S5 l5 => let ⟨m', hm, q⟩ := q; ⟨m', hm, δ5, F5, q, S5, l3.trans l5⟩, L.rd, L.rl⟩
  | false =>
    rw [if_neg Bool.false_ne_true]
    exact L.nx δ2 σ2 F3 H3 (hn rfl) (S2.go g3) l3
end

/-! ### defs, calls -/
def ReOk (K : PySem.W.Frag) (F : Fz) (H : Hp) (r : Rs) (Q : VK) (E : XK) : Prop := match r with
  | .d x => ∀ v F' H', Gr F H F' H' → DV K F' H' v x → Q v H'
  | .l xs => ∀ a vs F' H', Gr F H F' H' → H a = none → ¬ F' a → H' a = some (.lst vs) → DVs K F' H' vs xs → Q (.ref a) H'
  | .exc C f x => ∀ dx v F' H', Gr F H F' H' → H dx = none → F' dx → H' dx = some (.xd [(f, v)]) → DV K F' H' v x → E (.ref C) (some dx) H'
/-- the promise: R says what is handed back for which data -/
def spR (K : PySem.W.Frag) (R : List D → Rs → Prop) : Sp := fun vs H Q E => ∃ F ds r, (∀ a, F a → ∃ o, H a = some o) ∧ DVs K F H vs ds ∧ R ds r ∧ ReOk K F H r Q E
def startD (N : List Str) (ds : List D) : Env3 := ds.map Sl.d ++ List.replicate (N.length - ds.length) .un
def endR (r : Rs) : De := { nx := fun _ => r = .d .non, rt := fun r' => r = r' }
/-- what an exception that leaves meets: P says which leave, and where -/
def XW (K : PySem.W.Frag) (B : Bs) (E : L2.St → XK) (P : Env3 → Addr → Str → D → Prop) : Prop := ∀ δ σ C f x dx v F' H', P δ C f x → Sta K B.F0 B.H0 δ σ F' H' → Le B.Fb B.Hb F' H' → F' dx → B.H0 dx = none → H' dx = some (.xd [(f, v)]) → DV K F' H' v x → E σ (.ref C) (some dx) H'
section
variable {K : PySem.W.Frag} {F0 : Fz} {H0 : Hp} {δ : Env3}
theorem sta_start {F : Fz} {H : Hp} {N : List Str} {ds : List D} {vs : List V} (r : DVs K F H vs ds) (dm : ∀ a, F a → ∃ o, H a = some o) : Sta K F H (startD N ds) (L2.start N vs) F H := by
  have un : ∀ n, Sls K F H H (List.replicate n .un) (List.replicate n none) [] := fun n => by
    induction n with
    | zero => exact .nil
    | succ n ih => exact .cons (as := []) (.un none) ih
  have all : ∀ {ds : List D} {vs : List V} {ss : Env3} {ws : L2.St}, DVs K F H vs ds → Sls K F H H ss ws [] → Sls K F H H (ds.map Sl.d ++ ss) (vs.map some ++ ws) [] := by
    intro ds vs ss ws r h
    induction ds generalizing vs with
    | nil =>
      cases r
      exact h
    | cons d ds ih =>
      cases r with
      | cons r1 r2 => exact .cons (as := []) (.d r1) (ih r2)
  refine ⟨.refl dm, [], ?_, List.nodup_nil⟩
  unfold startD L2.start
  rw [r.length]
  exact all r (un _)
/-- the ends of a def -/
theorem lk_end {F : Fz} {H : Hp} {r : Rs} {Q : VK} {E : XK} (h : ReOk K F H r Q E) : Lk K ⟨F, H, F, H⟩ F H (endR r) { nx := fun _ H' => Q .non H', rt := Q } := by
  refine ⟨.refl _ _, fun δ σ F' H' p S l => ?_, fun δ σ F' H' p S l => p.elim, fun δ σ F' H' p S l => p.elim, fun x v F' H' p g r => ?_, fun xs a vs F' H' p g h0 nf e r => ?_⟩
  · have p' : r = .d .non := p
    subst p'
    exact h .non F' H' S.gr .non
  · have p' : _ = Rs.d x := p
    subst p'
    exact h v F' H' g r
  · have p' : _ = Rs.l xs := p
    subst p'
    exact h a vs F' H' g h0 nf e r
theorem xw_end {F : Fz} {H : Hp} {r : Rs} {Q : VK} {E : XK} (h : ReOk K F H r Q E) : XW K ⟨F, H, F, H⟩ (fun _ => E) fun _ C f x => r = .exc C f x := fun δ σ C f x dx v F' H' p S l z h0 e rv => by
  subst p
  exact h dx v F' H' S.gr h0 z e rv
/-- THE RULE for a def, by its body over data -/
theorem fnR {CX : CXT} {P : Program} {w : World} {mg : Str → Option Value} {base : Heap} {x qual : Str} {params : Arguments} {body : List Stmt} {scope : Scope} {dvs : List V} {kws : List (Str × V)} {f : Addr} {fd : FuncData} {N ps : List Str} {k : Nat} {R : List D → Rs → Prop}
    (Fn : FunD K x qual params body scope dvs kws f fd) (S : FnScope N ps scope) (len : ∀ ds r, R ds r → ds.length = ps.length)
    (h : ∀ (cdv : Value) (A : Around) (outer : List Env) (s : Shared) (H : Hp) (E : XK), Room k (A.deeper (envOfC qual scope s.heap.objs.size f cdv)) → ∀ ds r, R ds r →
      ∃ t, PSs (cxOf CX P w K mg base N qual scope f cdv A outer s H E) body t ∧ ∀ F, XW K ⟨F, H, F, H⟩ (fun _ => E) (fun _ C f x => r = .exc C f x) → SD K ⟨F, H, F, H⟩ t (startD N ds) (endR r)) : FnOk P w K mg base CX (k + 1) f fd ps (spR K R) := by
  refine Fn.ok S (fun vs H Q E hs => ?_) fun cdv A outer s H vs Q E hr hs => ?_
  · obtain ⟨F, ds, r, dm, rv, hR, _⟩ := hs
    rw [rv.length]
    exact len ds r hR
  · obtain ⟨F, ds, r, dm, rv, hR, ho⟩ := hs
    obtain ⟨t, h1, h2⟩ := h cdv A outer s H E hr ds r hR
    exact ⟨t, h1, h2 F (xw_end ho) _ F H _ (sta_start rv dm) (lk_end ho)⟩
variable {te : TE} {tA : TA} {d : D} {ds es xs : List D} {R : List D → Rs → Prop} {E : XK} {dvs : List V}
theorem ev_call (h : Eva K δ tA ds) (hR : R ds (.d d)) : Ev K δ (tCall (spR K R) [] E tA) d := fun F0 H0 σ F H S Q q => h F0 H0 σ F H S _ fun vs F1 H1 g1 r1 =>
  ⟨F1, ds, _, g1.dom, by rw [List.append_nil]; exact r1, hR, fun v F' H' g r => q v F' H' (g1.trans g) r⟩
theorem evl_call (h : Eva K δ tA ds) (hR : R ds (.l xs)) : Evl K δ (tCall (spR K R) [] E tA) xs := fun F0 H0 σ F H S Q q => h F0 H0 σ F H S _ fun vs F1 H1 g1 r1 =>
  ⟨F1, ds, _, g1.dom, by rw [List.append_nil]; exact r1, hR, fun a ws F' H' g ha nf e r => q a ws F' H' (g1.trans g) (g1.back ha) nf e r⟩
end
end L3
set_option Elab.async false
set_option linter.all false
set_option maxRecDepth 100000
set_option maxHeartbeats 4000000
/-! Instances, exceptions over data. -/
namespace L3
open PySem PySem.Spec PyProof.Rows L2

/-! ### calls that may raise, at the caller's slots -/
section
variable {X : Cx} {CX : CXT} {k : Nat} {f C : Addr} {fd : FuncData} {ps : List Str} {sp : Sp} {dvs : List V} {ds : List Value} {E : L2.St → XK} {x m : Str} {p pos apos : Pos} {e o : Expr} {es : List Expr} {ta : TE} {t : TA}
theorem pe_call0X (F : FnOk X.prog X.w X.K X.mg X.base CX k f fd ps sp) (hr : Room k X.A) (hg : Gl X x) (hm : X.mg x = some (.ref f)) (hk : PySem.W.keepIn X.K (.ref f) = true) (hb : Binds X.K fd ps ds) (hd : Vals dvs ds) (hx : ∀ σ, PassesAt CX X σ (E σ))
    (hdb : (x == ("__debug__" : Str)) = false := by decide) : PE X (.Call (.Name x p) [] [] pos) (tCallSD sp dvs E tNil) := by
  refine ⟨fun pins s σ H Q I h => ?_⟩
  refine wpAny_Call_Name_kw (ld_glob I hg hm ?_ hdb)
  exact PySem.W.callWith_K0 I.kIn hk (run_fnSD (us := []) F hr hb hd (hx σ) I .nil h)
def tMethX (C : Addr) (m : Str) (sp : Sp) (dvs : List V) (E : L2.St → XK) (ta : TE) (t : TA) : TE := fun σ H Q => ta σ H fun x H1 => ∃ a dx fs, x = .ref a ∧ H1 a = some (.ins C dx fs) ∧ fs.lookup m = none ∧
  t σ H1 fun vs H2 => sp (x :: (vs ++ dvs)) H2 Q (E σ)
def tMakeX (C : Addr) (sp : Sp) (dvs : List V) (E : L2.St → XK) (t : TA) : TE := fun σ H Q => t σ H fun vs H1 => ∀ x dx, H1 x = none → H1 dx = none → dx ≠ x →
  sp (.ref x :: (vs ++ dvs)) (upd (upd H1 dx (.own x)) x (.ins C dx [])) (fun v H2 => v = .non ∧ Q (.ref x) H2) (E σ)
theorem pe_methX {pl : Sem Bool} (he : PE X o ta) (c : Cls X.K C) (hm : Meth X.K C m f) (F : FnOk X.prog X.w X.K X.mg X.base CX k f fd ps sp) (hr : Room k X.A) (hb : Binds X.K fd ps ds) (hd : Vals dvs ds) (hx : ∀ σ, PassesAt CX X σ (E σ)) (ha : PA X (e :: es) t)
    (hst : starEach (e :: es) X.env = (false, eval e X.env) :: starEach es X.env := by rfl) (hpl : (backTo pos (starEach es X.env)).any (·.1) = false := by rfl)
    (ht : eval (.Call (.Attribute o m apos) (e :: es) [] pos) X.env = (do
      let ov ← eval o X.env
      standAt apos.atName
      let (f, first) ← holding [ov] (getMethod ov m pl)
      callWith pos f first (backTo pos (starEach (e :: es) X.env)) (backToKw pos (keywordEach [] X.env))) := by rfl) :
    PE X (.Call (.Attribute o m apos) (e :: es) [] pos) (tMethX C m sp dvs E ta t) := by
  refine ⟨fun pins s σ H Q I h => ?_⟩
  refine PySem.W.methodCall_KW (pl := pl) (thn (he.run pins s σ H _ I h) fun u s1 ⟨x, H1, I1, rx, a, dx, fs, ex, ea, l, q⟩ => ?_) ht
  subst ex
  obtain rfl : u = Value.ref a := rx
  refine getmeth_ok I1 ea c hm l ?_
  refine PySem.W.callWith_K (first := [.ref a]) (h₀ := X.base) I.ok.mod.kin hm.kp (thn (ha.run pos pins s1 σ H1 _ I1 q) fun us s2 ⟨vs, H2, I2, r, q2⟩ => ⟨I2.kIn, ?_⟩) hst hpl
  exact run_fnSD (us := .ref a :: us) (vs := .ref a :: vs) F hr hb hd (hx σ) I2 (.cons rfl r) q2
theorem pe_methX0 {pl : Sem Bool} (he : PE X o ta) (c : Cls X.K C) (hm : Meth X.K C m f) (F : FnOk X.prog X.w X.K X.mg X.base CX k f fd ps sp) (hr : Room k X.A) (hb : Binds X.K fd ps ds) (hd : Vals dvs ds) (hx : ∀ σ, PassesAt CX X σ (E σ))
    (ht : eval (.Call (.Attribute o m apos) [] [] pos) X.env = (do
      let ov ← eval o X.env
      standAt apos.atName
      let (f, first) ← holding [ov] (getMethod ov m pl)
      callWith pos f first (backTo pos (starEach [] X.env)) (backToKw pos (keywordEach [] X.env))) := by rfl) :
    PE X (.Call (.Attribute o m apos) [] [] pos) (tMethX C m sp dvs E ta tNil) := by
  refine ⟨fun pins s σ H Q I h => ?_⟩
  refine PySem.W.methodCall_KW (pl := pl) (thn (he.run pins s σ H _ I h) fun u s1 ⟨x, H1, I1, rx, a, dx, fs, ex, ea, l, q⟩ => ?_) ht
  subst ex
  obtain rfl : u = Value.ref a := rx
  refine getmeth_ok I1 ea c hm l ?_
  exact PySem.W.callWith_K0 (first := [.ref a]) I1.kIn hm.kp (run_fnSD (us := [.ref a]) (vs := [.ref a]) F hr hb hd (hx σ) I1 (.cons rfl .nil) q)
theorem run_makeX {pins : List (Addr × Obj)} {σ : L2.St} {H : Hp} {s : Shared} {Q : VK} {us : List Value} {vs : List V} {E : XK} (M : Mk X.K C f) (F : FnOk X.prog X.w X.K X.mg X.base (L2.CX X.prog X.w) k f fd ps sp) (hr : Room (k + 1) X.A) (hb : Binds X.K fd ps ds) (hd : Vals dvs ds)
    (hx : ∀ (pins : List (Addr × Obj)) (H : Hp) (s : Shared) (e : Value) (s' : Shared), Inv X pins σ H s → L2.CX X.prog X.w X.stack H s E e s' → X.xe e s') (I : Inv X pins σ H s) (r : Vals vs us)
    (h : ∀ x dx, H x = none → H dx = none → dx ≠ x → sp (.ref x :: (vs ++ dvs)) (upd (upd H dx (.own x)) x (.ins C dx [])) (fun v H2 => v = .non ∧ Q (.ref x) H2) E) :
    wpAny (model X.prog X.w) X.A (call (.ref C) us) (EP X pins σ Q) X.xe s := by
  have hq := h (s.heap.objs.size + 1) s.heap.objs.size (I.hok.fresh (Nat.le_succ _)) (I.hok.fresh (Nat.le_refl _)) (Nat.ne_of_lt (Nat.lt_succ_self _))
  have I2 := Inv.made (C := C) I
  have r2 : Vals (V.ref (s.heap.objs.size + 1) :: (vs ++ dvs)) (Value.ref (s.heap.objs.size + 1) :: (us ++ ds)) := .cons rfl (r.append hd)
  have hl : (Value.ref (s.heap.objs.size + 1) :: us ++ ds).length = ps.length := by
    have e := r2.length
    rw [F.len _ _ _ _ hq] at e
    exact e.symm
  refine wpAny_call (make_map (f := f) I.kIn M.makes M.init (beq_iff_eq.mp M.fn) (codeAny_mono (F.run _ X.stack _ _ ⟨Value.ref (s.heap.objs.size + 1) :: us, []⟩ (Value.ref (s.heap.objs.size + 1) :: (us ++ ds)) _ _ E (hr.make C us [])
    (I2.env0.make C us []) (hb _ (Value.ref (s.heap.objs.size + 1) :: us) I2.kIn hl) r2 hq) fun r s' hq' => ?_))
  cases r with
  | error e => exact hx pins _ _ e s' I2 hq'
  | ok fl =>
    cases fl with
    | ret u =>
      obtain ⟨v, H', I3, rv, ev, q3⟩ := I2.after hq'
      subst ev
      exact ⟨rv, ⟨V.ref (s.heap.objs.size + 1), H', I3, rfl, q3⟩⟩
    | next => exact False.elim hq'
    | brk => exact False.elim hq'
    | cont => exact False.elim hq'
theorem pe_makeX (M : Mk X.K C f) (F : FnOk X.prog X.w X.K X.mg X.base (L2.CX X.prog X.w) k f fd ps sp) (hr : Room (k + 1) X.A) (hg : Gl X x) (hm : X.mg x = some (.ref C)) (hb : Binds X.K fd ps ds) (hd : Vals dvs ds) (hx : ∀ σ, PassesAt (L2.CX X.prog X.w) X σ (E σ))
    (ha : PA X (e :: es) t) (hdb : (x == ("__debug__" : Str)) = false := by decide) (he : starEach (e :: es) X.env = (false, eval e X.env) :: starEach es X.env := by rfl) (hpl : (backTo pos (starEach es X.env)).any (·.1) = false := by rfl) :
    PE X (.Call (.Name x p) (e :: es) [] pos) (tMakeX C sp dvs E t) := by
  refine ⟨fun pins s σ H Q I h => ?_⟩
  refine wpAny_Call_Name_kw (ld_glob I hg hm ?_ hdb)
  refine PySem.W.callWith_K (h₀ := X.base) I.ok.mod.kin M.kp (thn (ha.run pos pins s σ H _ I h) fun us s1 ⟨vs, H1, I1, r, q⟩ => ⟨I1.kIn, ?_⟩) he hpl
  exact run_makeX M F hr hb hd (hx σ) I1 r q
theorem pe_makeX0 (M : Mk X.K C f) (F : FnOk X.prog X.w X.K X.mg X.base (L2.CX X.prog X.w) k f fd ps sp) (hr : Room (k + 1) X.A) (hg : Gl X x) (hm : X.mg x = some (.ref C)) (hb : Binds X.K fd ps ds) (hd : Vals dvs ds) (hx : ∀ σ, PassesAt (L2.CX X.prog X.w) X σ (E σ))
    (hdb : (x == ("__debug__" : Str)) = false := by decide) : PE X (.Call (.Name x p) [] [] pos) (tMakeX C sp dvs E tNil) := by
  refine ⟨fun pins s σ H Q I h => ?_⟩
  refine wpAny_Call_Name_kw (ld_glob I hg hm ?_ hdb)
  exact PySem.W.callWith_K0 I.kIn M.kp (run_makeX (us := []) M F hr hb hd (hx σ) I .nil h)
theorem passZ {X : Cx} (σ : L2.St) : PassesAt (L2.CX X.prog X.w) X σ (fun _ _ _ => False) := fun _ _ _ _ _ _ h => by
  obtain ⟨_, _, _, _, _, _, _, _, _, _, _, _, z⟩ := h
  exact z.elim
end
abbrev EZ : L2.St → XK := fun _ _ _ _ => False

/-! ### what raises -/
/-- te raises -/
def Evx (K : PySem.W.Frag) (B : Bs) (δ : Env3) (te : TE) : Prop := ∀ σ F H Q, Sta K B.F0 B.H0 δ σ F H → Le B.Fb B.Hb F H → te σ H Q
def Eax (K : PySem.W.Frag) (B : Bs) (δ : Env3) (tA : TA) : Prop := ∀ σ F H Q, Sta K B.F0 B.H0 δ σ F H → Le B.Fb B.Hb F H → tA σ H Q
section
variable {K : PySem.W.Frag} {B : Bs} {δ : Env3} {te ta tb : TE} {tA : TA} {d x : D} {ds es xs : List D} {R : List D → Rs → Prop} {E : L2.St → XK} {dvs : List V} {P : Env3 → Addr → Str → D → Prop} {C : Addr} {f : Str} {D' : De} {i : Nat}
theorem ev_callX (h : Eva K δ tA ds) (hR : R ds (.d d)) : Ev K δ (tCallSD (spR K R) [] E tA) d := fun F0 H0 σ F H S Q q => h F0 H0 σ F H S _ fun vs F1 H1 g1 r1 =>
  ⟨F1, ds, _, g1.dom, by rw [List.append_nil]; exact r1, hR, fun v F' H' g r => q v F' H' (g1.trans g) r⟩
theorem evl_callX (h : Eva K δ tA ds) (hR : R ds (.l xs)) : Evl K δ (tCallSD (spR K R) [] E tA) xs := fun F0 H0 σ F H S Q q => h F0 H0 σ F H S _ fun vs F1 H1 g1 r1 =>
  ⟨F1, ds, _, g1.dom, by rw [List.append_nil]; exact r1, hR, fun a ws F' H' g ha nf e r => q a ws F' H' (g1.trans g) (g1.back ha) nf e r⟩
theorem evx_call (h : Eva K δ tA ds) (hR : R ds (.exc C f x)) (xw : XW K B E P) (hp : P δ C f x) : Evx K B δ (tCallSD (spR K R) [] E tA) := fun σ F H Q S lb => h _ _ σ F H S _ fun vs F1 H1 g1 r1 =>
  ⟨F1, ds, _, g1.dom, by rw [List.append_nil]; exact r1, hR, fun dx v F' H' g h0 z e rv => xw δ σ C f x dx v F' H' hp ((S.go g1).go g) (lb.trans (g1.le.trans g.le)) z ((S.gr.trans g1).back h0) e rv⟩
theorem eax_head (h : Evx K B δ te) : Eax K B δ (tCons te tA) := fun σ F H Q S lb => h σ F H _ S lb
theorem eax_tail (h : Ev K δ te d) (h2 : Eax K B δ tA) : Eax K B δ (tCons te tA) := fun σ F H Q S lb => h _ _ σ F H S _ fun v F1 H1 g1 r1 => h2 σ F1 H1 _ (S.go g1) (lb.trans g1.le)
theorem evx_args {sp : Sp} (h : Eax K B δ tA) : Evx K B δ (tCallSD sp dvs E tA) := fun σ F H Q S lb => h σ F H _ S lb
theorem evx_cb {r : List V → Hp → VK → Prop} (h : Eax K B δ tA) : Evx K B δ (tCB r tA) := fun σ F H Q S lb => h σ F H _ S lb
theorem sx_drop (h : Evx K B δ te) : SD K B (tDrop te) δ D' := fun σ F H Dn S L => h σ F H _ S L.ba
theorem sx_asg {g : TG} (h : Evx K B δ te) : SD K B (tAsg te g) δ D' := fun σ F H Dn S L => h σ F H _ S L.ba
theorem sx_ret (h : Evx K B δ te) : SD K B (tRet te) δ D' := fun σ F H Dn S L => h σ F H _ S L.ba
end

/-! ### instances -/
/-- what __init__ makes -/
inductive Ri where
  | ok (fs : List (Str × D)) | exc (C : Addr) (f : Str) (x : D)
def RiOk (K : PySem.W.Frag) (C x : Addr) (F : Fz) (H : Hp) (r : Ri) (Q : VK) (E : XK) : Prop := match r with
  | .ok fs => ∀ dx gs F' H', Gr F (del H x) F' H' → ¬ F' x → H' x = some (.ins C dx gs) → DFs K F' H' gs fs → Q .non H'
  | .exc C' f y => ∀ d v F' H', Gr F (del H x) F' H' → del H x d = none → F' d → H' d = some (.xd [(f, v)]) → DV K F' H' v y → E (.ref C') (some d) H'
/-- the promise of an __init__ -/
def spI (K : PySem.W.Frag) (C : Addr) (R : List D → Ri → Prop) : Sp := fun vs H Q E => ∃ x dx ws F ds r, vs = .ref x :: ws ∧ H x = some (.ins C dx []) ∧ ¬ F x ∧ (∀ a, F a → ∃ o, H a = some o) ∧ DVs K F H ws ds ∧ R ds r ∧ RiOk K C x F H r Q E
def putD (f : Str) (d : D) : List (Str × D) → List (Str × D)
  | [] => [(f, d)]
  | (g, x) :: r => if g = f then (g, d) :: r else (g, x) :: putD f d r
section
variable {K : PySem.W.Frag} {F F' : Fz} {H H' : Hp}
theorem dfs_put {f : Str} {v : V} {d : D} (h : DV K F H v d) : ∀ {gs : List (Str × V)} {fs : List (Str × D)}, DFs K F H gs fs → DFs K F H (putF f v gs) (putD f d fs)
  | [], [], _ => .cons h .nil
  | [], _ :: _, r => by cases r
  | _ :: _, [], r => by cases r
  | (g, w) :: gs, (g', y) :: fs, r => by
    cases r with
    | cons r1 r2 =>
      show DFs K F H (if g = f then (g, v) :: gs else (g, w) :: putF f v gs) (if g = f then (g, d) :: fs else (g, y) :: putD f d fs)
      split
      · exact .cons h r2
      · exact .cons r1 (dfs_put h r2)
theorem DFs.length : ∀ {gs : List (Str × V)} {fs : List (Str × D)}, DFs K F H gs fs → gs.length = fs.length
  | [], [], _ => rfl
  | [], _ :: _, r => by cases r
  | _ :: _, [], r => by cases r
  | (g, w) :: gs, (g', y) :: fs, r => by
    cases r with
    | cons _ r2 => exact congrArg Nat.succ (DFs.length r2)
theorem le_del {x : Addr} (h : ¬ F x) (o : ∀ u, H x = some u → OwnO u) : Le F H F (del H x) := by
  have ne : ∀ a, F a → a ≠ x := fun a fa z => h (z ▸ fa)
  refine ⟨fun _ z => z, fun a u fa e => by rw [del_ne (ne a fa)]; exact e, fun a xs e => ?_, fun a u w e => ?_⟩
  · have : a ≠ x := fun z => by
      subst z
      exact o _ e
    rw [del_ne this]
    exact e
  · have : a ≠ x := fun z => by
      subst z
      exact o _ e
    rw [del_ne this]
    exact e
theorem le_un {x : Addr} (h : ¬ F x) : Le F (del H x) F H := by
  have key : ∀ {a : Addr} {u : HO}, del H x a = some u → H a = some u := fun {a u} e => by
    by_cases z : a = x
    · subst z
      rw [del_same] at e
      cases e
    · rw [del_ne z] at e
      exact e
  exact ⟨fun _ z => z, fun a u _ e => key e, fun a xs e => key e, fun a u w e => key e⟩
theorem dom_del {x : Addr} (dm : ∀ a, F a → ∃ o, H a = some o) (h : ¬ F x) : ∀ a, F a → ∃ o, del H x a = some o := fun a fa => by
  obtain ⟨o, e⟩ := dm a fa
  exact ⟨o, by rw [del_ne fun z : a = x => h (by rw [← z]; exact fa)]; exact e⟩
end

/-! ### __init__ by its body -/
def startI (N : List Str) (x C : Addr) (ds : List D) : Env3 := .ow (some x) (.ins C []) :: (ds.map Sl.d ++ List.replicate (N.length - (ds.length + 1)) .un)
def endI (x C : Addr) (r : Ri) : De := { nx := fun δ => ∃ fs, δ[0]? = some (.ow (some x) (.ins C fs)) ∧ r = .ok fs, rt := fun _ => False }
section
variable {K : PySem.W.Frag} {F : Fz} {H : Hp} {x C dx : Addr} {ws : List V} {ds : List D} {N : List Str}
theorem sta_startI (hx : H x = some (.ins C dx [])) (nf : ¬ F x) (dm : ∀ a, F a → ∃ o, H a = some o) (r : DVs K F H ws ds) : Sta K F (del H x) (startI N x C ds) (L2.start N (.ref x :: ws)) F H := by
  have un : ∀ n, Sls K F H (del H x) (List.replicate n .un) (List.replicate n none) [] := fun n => by
    induction n with
    | zero => exact .nil
    | succ n ih => exact .cons (as := []) (.un none) ih
  have all : ∀ {ds : List D} {vs : List V} {ss : Env3} {us : L2.St}, DVs K F H vs ds → Sls K F H (del H x) ss us [] → Sls K F H (del H x) (ds.map Sl.d ++ ss) (vs.map some ++ us) [] := by
    intro ds vs ss us r h
    induction ds generalizing vs with
    | nil =>
      cases r
      exact h
    | cons d ds ih =>
      cases r with
      | cons r1 r2 => exact .cons (as := []) (.d r1) (ih r2)
  have g : Gr F (del H x) F H := ⟨fun _ z => z, fun a o e => by
    by_cases z : a = x
    · subst z
      rw [del_same] at e
      cases e
    · rw [del_ne z] at e
      exact e, fun _ z => .inl z, dm⟩
  refine ⟨g, [x], ?_, List.nodup_cons.mpr ⟨by simp, List.nodup_nil⟩⟩
  unfold startI L2.start
  have e : (V.ref x :: ws).length = ds.length + 1 := by
    show ws.length + 1 = _
    rw [r.length]
  rw [e]
  exact .cons (as := [x]) (.own hx ⟨dx, [], rfl, .nil⟩ nf del_same fun b z => (Option.some.inj z).symm) (all r (un _))
theorem lk_endI {r : Ri} {Q : VK} {E : XK} (h : RiOk K C x F H r Q E) (nf : ¬ F x) : Lk K ⟨F, del H x, F, del H x⟩ F H (endI x C r) { nx := fun _ H' => Q .non H', rt := Q } := by
  refine ⟨le_un nf, fun δ σ F' H' p S l => ?_, fun δ σ F' H' p S l => p.elim, fun δ σ F' H' p S l => p.elim, fun _ _ _ _ p => p.elim, fun _ _ _ _ _ p => p.elim⟩
  obtain ⟨fs, e, rfl⟩ := p
  obtain ⟨a, o, e1, e2, ⟨dx, gs, rfl, r⟩, e4, e5, hq, _⟩ := S.ow e
  obtain rfl := hq x rfl
  exact h dx gs F' H' S.gr e4 e2 r
theorem xw_endI {r : Ri} {Q : VK} {E : XK} (h : RiOk K C x F H r Q E) : XW K ⟨F, del H x, F, del H x⟩ (fun _ => E) fun _ C' f y => r = .exc C' f y := fun δ σ C' f y d v F' H' p S l z h0 e rv => by
  subst p
  exact h d v F' H' S.gr h0 z e rv
end
/-- THE RULE for an __init__ -/
theorem fnI {CX : CXT} {P : Program} {w : World} {K : PySem.W.Frag} {mg : Str → Option Value} {base : Heap} {x qual : Str} {params : Arguments} {body : List Stmt} {scope : Scope} {dvs : List V} {kws : List (Str × V)} {f : Addr} {fd : FuncData} {N ps : List Str} {k : Nat} {C : Addr} {R : List D → Ri → Prop}
    (Fn : FunD K x qual params body scope dvs kws f fd) (S : FnScope N ps scope) (len : ∀ ds r, R ds r → ds.length + 1 = ps.length)
    (h : ∀ (cdv : Value) (A : Around) (outer : List Env) (s : Shared) (H : Hp) (E : XK), Room k (A.deeper (envOfC qual scope s.heap.objs.size f cdv)) → ∀ ds r, R ds r →
      ∃ t, PSs (cxOf CX P w K mg base N qual scope f cdv A outer s H E) body t ∧ ∀ F x, XW K ⟨F, del H x, F, del H x⟩ (fun _ => E) (fun _ C' f y => r = .exc C' f y) → SD K ⟨F, del H x, F, del H x⟩ t (startI N x C ds) (endI x C r)) : FnOk P w K mg base CX (k + 1) f fd ps (spI K C R) := by
  refine Fn.ok S (fun vs H Q E hs => ?_) fun cdv A outer s H vs Q E hr hs => ?_
  · obtain ⟨x, dx, ws, F, ds, r, rfl, hx, nf, dm, rv, hR, _⟩ := hs
    show ws.length + 1 = _
    rw [rv.length]
    exact len ds r hR
  · obtain ⟨x, dx, ws, F, ds, r, rfl, hx, nf, dm, rv, hR, ho⟩ := hs
    obtain ⟨t, h1, h2⟩ := h cdv A outer s H E hr ds r hR
    exact ⟨t, h1, h2 F x (xw_endI ho) _ F H _ (sta_startI hx nf dm rv) (lk_endI ho nf)⟩
/-- .. for one that says super() -/
theorem fnIS {CX : CXT} {P : Program} {w : World} {K : PySem.W.Frag} {mg : Str → Option Value} {base : Heap} {k : Nat} {f cc C : Addr} {name qual : Str} {params : Arguments} {body : List Stmt} {scope : Scope} {dV kV doc pm cdv ct oc : Value} {an od : Option Addr}
    {osl : Array (Option Value)} {oc0 : Obj} {v0 : Option Value} {N ps : List Str} {R : List D → Ri → Prop} (lk : K.lookup f = some ⟨oc, od, .func (PySem.W.ksFn name qual params body scope dV kV doc pm an cdv ct cc), osl⟩) (hcc : K.lookup cc = some oc0) (hdc : oc0.data = .cell v0) (hcd : PySem.W.codeIn K cdv qual = true) (S : Sy.FnScopeS N ps scope)
    (len : ∀ ds r, R ds r → ds.length + 1 = ps.length)
    (h : ∀ (A : Around) (outer : List Env) (s : Shared) (H : Hp) (E : XK), Room k (A.deeper (PySem.W.ksEnv qual scope s.heap.objs.size f cdv cc)) → ∀ ds r, R ds r →
      ∃ t, Sy.PSsA (Sy.cxS CX P w K mg base N qual scope f cdv cc A outer s H E) body body t ∧ ∀ F x, XW K ⟨F, del H x, F, del H x⟩ (fun _ => E) (fun _ C' f y => r = .exc C' f y) → SD K ⟨F, del H x, F, del H x⟩ t (startI N x C ds) (endI x C r)) : FnOk P w K mg base CX (k + 1) f (PySem.W.ksFn name qual params body scope dV kV doc pm an cdv ct cc) ps (spI K C R) := by
  refine Sy.fn_ofS lk hcc hdc hcd S (fun vs H Q E hs => ?_) fun A outer s H vs Q E hr hs => ?_
  · obtain ⟨x, dx, ws, F, ds, r, rfl, hx, nf, dm, rv, hR, _⟩ := hs
    show ws.length + 1 = _
    rw [rv.length]
    exact len ds r hR
  · obtain ⟨x, dx, ws, F, ds, r, rfl, hx, nf, dm, rv, hR, ho⟩ := hs
    obtain ⟨t, h1, h2⟩ := h A outer s H E hr ds r hR
    exact ⟨t, h1, h2 F x (xw_endI ho) _ F H _ (sta_startI hx nf dm rv) (lk_endI ho nf)⟩
section
variable {K : PySem.W.Frag} {B : Bs} {δ : Env3} {te ta tb to : TE} {tA : TA} {d y : D} {ds es xs : List D} {R : List D → Ri → Prop} {Rm : List D → Rs → Prop} {E : L2.St → XK} {dvs : List V} {P : Env3 → Addr → Str → D → Prop} {C C' x : Addr} {f m : Str} {D' : De} {i : Nat} {fs : List (Str × D)} {q : Option Addr}
/-- self.f = e -/
theorem s_fld (h : δ[i]? = some (.ow q (.ins C fs))) (he : Ev K δ te d) (c : Cls K C) (n : NoAttr K C f) (hz : fs.length < 1000) (k : D'.nx (δ.set i (.ow q (.ins C (putD f d fs))))) : SD K B (sFld K (tVar i) te f) δ D' := fun σ F H Dn S L =>
  he _ _ σ F H S _ fun v F1 H1 g1 r1 => by
    obtain ⟨a, o, e1, e2, ⟨dx, gs, rfl, r⟩, nf, h0, hq, wr⟩ := (S.go g1).ow h
    have l : Le F1 H1 F1 (upd H1 a (.ins C dx (putF f v gs))) := Le.mut nf e2 trivial
    obtain ⟨S2, l2⟩ := wr (.ins C dx (putF f v gs)) (.ins C (putD f d fs)) ⟨dx, _, rfl, dfs_put (DV.le l _ _ r1) (DFs.le l _ _ r)⟩
    exact ⟨_, e1, a, C, dx, gs, rfl, e2, c, n, by rw [r.length]; exact hz, L.nx _ _ F1 _ k S2 (g1.le.trans l2)⟩
/-- o.m(..) -/
theorem ev_meth (ho : Ev K δ to (.obj C fs)) (hm : fs.lookup m = none) (h : Eva K δ tA ds) (hR : Rm (.obj C fs :: ds) (.d d)) : Ev K δ (tMethX C m (spR K Rm) [] E to tA) d := fun F0 H0 σ F H S Q q => ho F0 H0 σ F H S _ fun v F1 H1 g1 r1 => by
  cases r1 with
  | @obj a _ dx gs _ h1 h2 h3 => exact ⟨a, dx, gs, rfl, h2, dfs_none h3 hm, h F0 H0 σ F1 H1 (S.go g1) _ fun vs F2 H2 g2 r2 =>
      ⟨F2, _, _, g2.dom, by rw [List.append_nil]; exact .cons (DV.le g2.le _ _ (.obj h1 h2 h3)) r2, hR, fun v F' H' g r => q v F' H' ((g1.trans g2).trans g) r⟩⟩
theorem evl_meth (ho : Ev K δ to (.obj C fs)) (hm : fs.lookup m = none) (h : Eva K δ tA ds) (hR : Rm (.obj C fs :: ds) (.l xs)) : Evl K δ (tMethX C m (spR K Rm) [] E to tA) xs := fun F0 H0 σ F H S Q q => ho F0 H0 σ F H S _ fun v F1 H1 g1 r1 => by
  cases r1 with
  | @obj a _ dx gs _ h1 h2 h3 => exact ⟨a, dx, gs, rfl, h2, dfs_none h3 hm, h F0 H0 σ F1 H1 (S.go g1) _ fun vs F2 H2 g2 r2 =>
      ⟨F2, _, _, g2.dom, by rw [List.append_nil]; exact .cons (DV.le g2.le _ _ (.obj h1 h2 h3)) r2, hR, fun a ws F' H' g ha nf e r => q a ws F' H' ((g1.trans g2).trans g) ((g1.trans g2).back ha) nf e r⟩⟩
theorem evx_meth (ho : Ev K δ to (.obj C fs)) (hm : fs.lookup m = none) (h : Eva K δ tA ds) (hR : Rm (.obj C fs :: ds) (.exc C' f y)) (xw : XW K B E P) (hp : P δ C' f y) : Evx K B δ (tMethX C m (spR K Rm) [] E to tA) := fun σ F H Q S lb => ho _ _ σ F H S _ fun v F1 H1 g1 r1 => by
  cases r1 with
  | @obj a _ dx gs _ h1 h2 h3 => exact ⟨a, dx, gs, rfl, h2, dfs_none h3 hm, h _ _ σ F1 H1 (S.go g1) _ fun vs F2 H2 g2 r2 =>
      ⟨F2, _, _, g2.dom, by rw [List.append_nil]; exact .cons (DV.le g2.le _ _ (.obj h1 h2 h3)) r2, hR, fun dx v F' H' g h0 z e rv => xw δ σ C' f y dx v F' H' hp (((S.go g1).go g2).go g) (lb.trans ((g1.le.trans g2.le).trans g.le)) z ((S.gr.trans (g1.trans g2)).back h0) e rv⟩⟩
theorem made {F : Fz} {H : Hp} {x dx : Addr} (dm : ∀ a, F a → ∃ o, H a = some o) (hx : H x = none) (hd : H dx = none) (ne : dx ≠ x) : ¬ F x ∧ Gr F H F (del (upd (upd H dx (.own x)) x (.ins C dx [])) x) := by
  have nf : ¬ F x := fun z => by
    obtain ⟨o, e⟩ := dm x z
    rw [hx] at e
    cases e
  refine ⟨nf, fun _ z => z, fun a o e => ?_, fun _ z => .inl z, fun a fa => ?_⟩
  · have n1 : a ≠ x := fun z => by
      rw [z, hx] at e
      cases e
    have n2 : a ≠ dx := fun z => by
      rw [z, hd] at e
      cases e
    rw [del_ne n1, upd_ne n1, upd_ne n2]
    exact e
  · obtain ⟨o, e⟩ := dm a fa
    have n1 : a ≠ x := fun z => by
      rw [z, hx] at e
      cases e
    have n2 : a ≠ dx := fun z => by
      rw [z, hd] at e
      cases e
    exact ⟨o, by rw [del_ne n1, upd_ne n1, upd_ne n2]; exact e⟩
theorem le_made {F : Fz} {H : Hp} {x dx : Addr} (dm : ∀ a, F a → ∃ o, H a = some o) (hx : H x = none) (hd : H dx = none) : Le F H F (upd (upd H dx (.own x)) x (.ins C dx [])) := by
  have k : ∀ a o, H a = some o → upd (upd H dx (.own x)) x (.ins C dx []) a = some o := fun a o e => by
    have n1 : a ≠ x := fun z => by
      rw [z, hx] at e
      cases e
    have n2 : a ≠ dx := fun z => by
      rw [z, hd] at e
      cases e
    rw [upd_ne n1, upd_ne n2]
    exact e
  exact ⟨fun _ z => z, fun a o _ e => k a o e, fun a xs e => k a _ e, fun a o u e => k a _ e⟩
theorem ev_make (h : Eva K δ tA ds) (hR : R ds (.ok fs)) : Ev K δ (tMakeX C (spI K C R) [] E tA) (.obj C fs) := fun F0 H0 σ F H S Q q => h F0 H0 σ F H S _ fun vs F1 H1 g1 r1 x dx hx hd ne => by
  obtain ⟨nf, g2⟩ := made (C := C) g1.dom hx hd ne
  have l2 := le_made (C := C) (dx := dx) g1.dom hx hd
  refine ⟨x, dx, vs, F1, ds, .ok fs, by rw [List.append_nil], upd_same, nf, fun a fa => ?_, DVs.le l2 _ _ r1, hR, fun dx2 gs F' H' g nf' e r => ⟨rfl, q _ (L3.add F' x) H' (g1.trans ((g2.trans g).add hx e)) ?_⟩⟩
  · obtain ⟨o, e⟩ := g1.dom a fa
    exact ⟨o, l2.keep a o fa e⟩
  · have l : Le F' H' (L3.add F' x) H' := ⟨fun _ z => .inl z, fun _ _ _ z => z, fun _ _ z => z, fun _ _ _ z => z⟩
    exact .obj (.inr rfl) e (DFs.le l _ _ r)
theorem evx_make (h : Eva K δ tA ds) (hR : R ds (.exc C' f y)) (xw : XW K B E P) (hp : P δ C' f y) : Evx K B δ (tMakeX C (spI K C R) [] E tA) := fun σ F H Q S lb => h _ _ σ F H S _ fun vs F1 H1 g1 r1 x dx hx hd ne => by
  obtain ⟨nf, g2⟩ := made (C := C) g1.dom hx hd ne
  have l2 := le_made (C := C) (dx := dx) g1.dom hx hd
  refine ⟨x, dx, vs, F1, ds, .exc C' f y, by rw [List.append_nil], upd_same, nf, fun a fa => ?_, DVs.le l2 _ _ r1, hR, fun d v F' H' g h0 z e rv => ?_⟩
  · obtain ⟨o, e⟩ := g1.dom a fa
    exact ⟨o, l2.keep a o fa e⟩
  · have g3 := g1.trans (g2.trans g)
    exact xw δ σ C' f y d v F' H' hp (S.go g3) (lb.trans g3.le) z ((S.gr.trans (g1.trans g2)).back h0) e rv
/-- a new state in which only the i-th slot's object has changed -/
theorem Sta.redo {F0 : Fz} {H0 : Hp} {σ : L2.St} {F F' : Fz} {H H' : Hp} {c c' : Cn} (S : Sta K F0 H0 δ σ F H) (h : δ[i]? = some (.ow (some x) c)) (g : Gr F (del H x) F' H') (nf : ¬ F' x) {o' : HO} (e : H' x = some o') (hc : CnR K F' H' c' o') : Sta K F0 H0 (δ.set i (.ow (some x) c')) σ F' H' ∧ Le F H F' H' := by
  obtain ⟨a, o, e1, e2, e3, e4, e5, hq, _⟩ := S.ow h
  obtain rfl := hq x rfl
  have gA : Gr F H F' (upd H' x o) := by
    refine ⟨g.sub, fun b u eb => ?_, fun b fb => ?_, fun b fb => ?_⟩
    · by_cases z : b = x
      · subst z
        rw [upd_same, ← e2]
        exact eb
      · rw [upd_ne z]
        exact g.keep b u (by rw [del_ne z]; exact eb)
    · have z : b ≠ x := fun z => nf (by rw [← z]; exact fb)
      have w := g.new b fb
      rw [del_ne z] at w
      exact w
    · have z : b ≠ x := fun z => nf (by rw [← z]; exact fb)
      obtain ⟨u, eu⟩ := g.dom b fb
      exact ⟨u, by rw [upd_ne z]; exact eu⟩
  obtain ⟨a2, o2, f1, f2, f3, f4, f5, hq2, wr⟩ := (S.go gA).ow h
  obtain rfl := hq2 x rfl
  have eH : upd (upd H' x o) x o' = H' := by
    funext b
    by_cases z : b = x
    · subst z
      rw [upd_same, e]
    · rw [upd_ne z, upd_ne z]
  obtain ⟨S2, l2⟩ := wr o' c' (by rw [eH]; exact hc)
  rw [eH] at S2 l2
  exact ⟨S2, gA.le.trans l2⟩
/-- super().__init__(..) -/
theorem s_super (h : δ[i]? = some (.ow (some x) (.ins C []))) (ha : Eva K δ tA ds) (hR : R ds (.ok fs)) {E : XK} (k : D'.nx (δ.set i (.ow (some x) (.ins C fs)))) : SD K B (tDrop (Sy.tSup C i (spI K C R) [] E tA)) δ D' := fun σ F H Dn S L => by
  obtain ⟨a, o, e1, e2, ⟨dx, gs, rfl, r⟩, nf, h0, hq, _⟩ := S.ow h
  obtain rfl := hq x rfl
  refine ⟨x, dx, gs, e1, e2, ha _ _ σ F H S _ fun vs F1 H1 g1 r1 => ?_⟩
  have S1 := S.go g1
  obtain ⟨a1, o1, f1, f2, ⟨dx1, gs1, rfl, r2⟩, nf1, _, hq1, _⟩ := S1.ow h
  obtain rfl := hq1 x rfl
  cases r2
  refine ⟨x, dx1, vs, F1, ds, .ok fs, by rw [List.append_nil], f2, nf1, g1.dom, r1, hR, fun dx2 gs2 F' H' g nf' e r3 => ?_⟩
  obtain ⟨S2, l2⟩ := S1.redo h g nf' e (c' := .ins C fs) ⟨dx2, gs2, rfl, r3⟩
  exact L.nx _ _ F' H' k S2 (g1.le.trans l2)
theorem Sls.forget {F : Fz} {H H0 : Hp} {c : Cn} {q : Option Addr} {a : Addr} : ∀ {δ : Env3} {σ : L2.St} {as : List Addr} (i : Nat), Sls K F H H0 δ σ as → as.Nodup → δ[i]? = some (.ow q c) → σ[i]? = some (some (.ref a)) →
    ∃ as', Sls K F H H0 (δ.set i .un) σ as' ∧ as'.Nodup ∧ (∀ b ∈ as', b ∈ as ∧ b ≠ a) ∧ a ∈ as
  | _, _, _, _, .nil, _, e, _ => by simp at e
  | _, _, _, 0, .cons (bs := cs) h1 h2, nd, e, e' => by
    have e2 := Option.some.inj (by simpa using e)
    subst e2
    have e3 := Option.some.inj (by simpa using e')
    subst e3
    obtain ⟨n1, n2, n3⟩ := List.nodup_append.mp nd
    cases h1 with
    | own g1 g2 g3 g4 g5 => exact ⟨cs, .cons (as := []) (.un _) h2, n2, fun b hb => ⟨List.mem_append_right _ hb, fun z => n3 a List.mem_cons_self b hb z.symm⟩, List.mem_append_left _ List.mem_cons_self⟩
  | _, _, _, i + 1, .cons (as := bs) (bs := cs) h1 h2, nd, e, e' => by
    obtain ⟨n1, n2, n3⟩ := List.nodup_append.mp nd
    obtain ⟨cs', q1, q2, q3, q4⟩ := Sls.forget i h2 n2 (by simpa using e) (by simpa using e')
    refine ⟨bs ++ cs', .cons h1 q1, List.nodup_append.mpr ⟨n1, q2, fun x hx y hy z => n3 x hx y (q3 y hy).1 z⟩, fun b hb => ?_, List.mem_append_right _ q4⟩
    rcases List.mem_append.mp hb with hb | hb
    · exact ⟨List.mem_append_left _ hb, fun z => n3 b hb a q4 z⟩
    · exact ⟨List.mem_append_right _ (q3 b hb).1, (q3 b hb).2⟩
theorem Sta.forget {F0 : Fz} {H0 : Hp} {σ : L2.St} {F : Fz} {H : Hp} {c : Cn} (S : Sta K F0 H0 δ σ F H) (h : δ[i]? = some (.ow (some x) c)) : Sta K F0 H0 (δ.set i .un) σ F (del H x) ∧ Le F H F (del H x) := by
  obtain ⟨a, o, e1, e2, e3, e4, e5, hq, _⟩ := S.ow h
  obtain rfl := hq x rfl
  obtain ⟨as, hs, nd⟩ := S.sl
  obtain ⟨as', q1, q2, q3, _⟩ := hs.forget i nd h e1
  have l : Le F H F (del H x) := le_del e4 fun u eu => by
    rw [e2] at eu
    cases eu
    exact e3.own
  refine ⟨⟨⟨S.gr.sub, fun b u eb => ?_, S.gr.new, fun b fb => ?_⟩, as', Sls.le l (fun b hb => ⟨del_ne (q3 b hb).2, (q1.at_ b hb).2.1⟩) q1, q2⟩, l⟩
  · rw [del_ne (ne_of_none eb e5)]
    exact S.gr.keep b u eb
  · obtain ⟨u, eu⟩ := S.gr.dom b fb
    exact ⟨u, l.keep b u fb eu⟩
theorem sx_super (h : δ[i]? = some (.ow (some x) (.ins C []))) (ha : Eva K δ tA ds) (hR : R ds (.exc C' f y)) {E : XK} (xw : XW K B (fun _ => E) P) (hp : P (δ.set i .un) C' f y) : SD K B (tDrop (Sy.tSup C i (spI K C R) [] E tA)) δ D' := fun σ F H Dn S L => by
  obtain ⟨a, o, e1, e2, ⟨dx, gs, rfl, r⟩, nf, h0, hq, _⟩ := S.ow h
  obtain rfl := hq x rfl
  refine ⟨x, dx, gs, e1, e2, ha _ _ σ F H S _ fun vs F1 H1 g1 r1 => ?_⟩
  have S1 := S.go g1
  obtain ⟨a1, o1, f1, f2, ⟨dx1, gs1, rfl, r2⟩, nf1, _, hq1, _⟩ := S1.ow h
  obtain rfl := hq1 x rfl
  cases r2
  refine ⟨x, dx1, vs, F1, ds, .exc C' f y, by rw [List.append_nil], f2, nf1, g1.dom, r1, hR, fun d v F' H' g hd z e rv => ?_⟩
  obtain ⟨S2, l2⟩ := S1.forget h
  exact xw _ σ C' f y d v F' H' hp (S2.go g) (L.ba.trans (g1.le.trans (l2.trans g.le))) z (S2.gr.back hd) e rv
end
end L3
set_option Elab.async false
set_option linter.all false
set_option maxRecDepth 100000
set_option maxHeartbeats 4000000
/-! Raising, handling; own objects read as data; lists of lists; isinstance, ==, sorted. -/
namespace L3
open PySem PySem.Spec PyProof.Rows L2

/-! ### raise -/
def spX (C : Addr) (f : Str) (A : V → Prop) : Sp := fun vs H Q E => ∃ a v, vs = [.ref a, v] ∧ A v ∧ H a = some (exo a C none) ∧ ∀ d, H d = none → d ≠ a → Q .non (upd (upd H d (exd d [(f, v)])) a (exo a C (some d)))
section
variable {K : PySem.W.Frag} {B : Bs} {δ : Env3} {te ta tb : TE} {tA : TA} {d x : D} {ds es xs : List D} {P Pout : Env3 → Addr → Str → D → Prop} {C : Addr} {f : Str} {D' : De} {i : Nat} {W Wout : WX}
theorem s_raise {A : V → Prop} (h : Eva K δ tA [x]) (hA : ∀ F H v, DV K F H v x → A v) (xw : XW K B (WE W) P) (hp : P δ C f x) : SD K B (fun _ σ H => tMkO C (spX C f A) [] tA σ H fun cls d H' => W cls d σ H') δ D' := fun σ F H Dn S L => h _ _ σ F H S _ fun vs F1 H1 g1 r1 => by
  obtain ⟨v, rfl, r2⟩ := dvs1 r1
  refine ⟨by show 1 ≤ 1000; omega, fun a ha => ⟨a, v, rfl, hA _ _ v r2, upd_same, fun d hd hne => ⟨rfl, d, [(f, v)], upd_same, by rw [upd_ne hne, upd_same], ?_, ?_⟩⟩⟩
  · rw [upd_ne hne] at hd
    exact hd
  · rw [upd_ne hne] at hd
    have e : upd (del (upd (upd (upd H1 a (exo a C none)) d (exd d [(f, v)])) a (exo a C (some d))) a) d (.xd [(f, v)]) = upd H1 d (.xd [(f, v)]) := by
      funext b
      by_cases z : b = d
      · subst z
        rw [upd_same, upd_same]
      · rw [upd_ne z, upd_ne z]
        by_cases y : b = a
        · subst y
          rw [del_same, ha]
        · rw [del_ne y, upd_ne y, upd_ne z, upd_ne y]
    rw [e]
    have g2 : Gr F1 H1 (add F1 d) (upd H1 d (.xd [(f, v)])) := Gr.add ((Gr.refl g1.dom).upd hd) hd upd_same
    have g := g1.trans g2
    exact xw δ σ C f x d v (add F1 d) _ hp (S.go g) (L.ba.trans g.le) (.inr rfl) (S.gr.back (g1.back hd)) upd_same (DV.le g2.le _ _ r2)
/-! ### try -/
def outD (D' : De) (i : Nat) : De := { nx := fun δ => D'.nx (δ.set i .un), rt := D'.rt, bk := fun δ => D'.bk (δ.set i .un), ct := fun δ => D'.ct (δ.set i .un) }
/-- what the clauses do with an exception -/
def HsD (K : PySem.W.Frag) (B : Bs) (Pout : Env3 → Addr → Str → D → Prop) (D' : De) (δ : Env3) (C : Addr) (f : Str) (x : D) : List Sy.Hd → Prop
  | [] => Pout δ C f x
  | (c, o, ts) :: l => ∃ b, PySem.W.exmOne K (.ref C) c = some b ∧ (b = true → ∀ a dd, match o with
      | none => SD K B (ts a (.ref C) (some dd)) δ D'
      | some i => SD K B (ts a (.ref C) (some dd)) (δ.set i (.d (.exn a C dd f x))) (outD D' i)) ∧ (b = false → HsD K B Pout D' δ C f x l)
theorem lk_out {F : Fz} {H : Hp} {Dn : Ends} (L : Lk K B F H D' Dn) (i : Nat) : Lk K B F H (outD D' i) (Sy.outN Dn i) :=
  ⟨L.ba, fun δ σ F' H' p S l => L.nx _ _ F' H' p (S.setun none i) l, fun δ σ F' H' p S l => L.bk _ _ F' H' p (S.setun none i) l, fun δ σ F' H' p S l => L.ct _ _ F' H' p (S.setun none i) l, L.rd, L.rl⟩
theorem hs_ok {F F' : Fz} {H H' : Hp} {Dn : Ends} {σ : L2.St} {dx : Addr} {v : V} (xo : XW K B (WE Wout) Pout) (L : Lk K B F H D' Dn) (S : Sta K B.F0 B.H0 δ σ F' H') (l : Le F H F' H') (z : F' dx) (h0 : B.H0 dx = none) (e : H' dx = some (.xd [(f, v)])) (rv : DV K F' H' v x) :
    ∀ hs : List Sy.Hd, HsD K B Pout D' δ C f x hs → Sy.wHs K Wout Dn hs (.ref C) (some dx) σ H'
  | [], h => xo δ σ C f x dx v F' H' h S (L.ba.trans l) z h0 e rv
  | (c, o, ts) :: hs, h => by
    obtain ⟨b, h1, h2, h3⟩ := h
    refine ⟨b, h1, fun hb a ha => ?_, fun hb => hs_ok xo L S l z h0 e rv hs (h3 hb)⟩
    have h4 := h2 hb a dx
    cases o with
    | none => exact h4 σ F' H' Dn S (L.from l)
    | some i => exact h4 _ F' H' _ (S.setd i (.exn z e rv)) (lk_out (L.from l) i)
theorem s_try {tb : WX → TS} {l : List Sy.Hd} (P : Env3 → Addr → Str → D → Prop) (xo : XW K B (WE Wout) Pout) (hb : ∀ (W : WX) (Fb : Fz) (Hb : Hp), XW K ⟨B.F0, B.H0, Fb, Hb⟩ (WE W) P → SD K ⟨B.F0, B.H0, Fb, Hb⟩ (tb W) δ D')
    (hh : ∀ δ2 C f x, P δ2 C f x → HsD K B Pout D' δ2 C f x l) : SD K B (fun Dn σ H => tb (Sy.wHs K Wout Dn l) Dn σ H) δ D' := fun σ F H Dn S L =>
  hb (Sy.wHs K Wout Dn l) F H (fun δ2 σ2 C f x dx v F' H' p S2 l2 z h0 e rv => hs_ok xo L S2 l2 z h0 e rv l (hh δ2 C f x p)) σ F H Dn S ⟨.refl F H, L.nx, L.bk, L.ct, L.rd, L.rl⟩
theorem ev_xf {a dd : Addr} (h : δ[i]? = some (.d (.exn a C dd f x))) : Ev K δ (tXf a (.ref C) (some dd) C f (tVar i)) x := fun F0 H0 σ F H S Q q => by
  obtain ⟨v, e, r⟩ := S.d h
  cases r with
  | exn z e2 rv => exact ⟨_, e, rfl, rfl, dd, _, _, rfl, e2, by simp [List.lookup_cons], q _ F H (.refl S.dom) rv⟩
end

/-! ### own objects as data -/
mutual
def Tr.toD : Tr → D
  | .d x => x
  | .l ts => .lst (Tr.toDs ts)
  | .t ts => .tup (Tr.toDs ts)
def Tr.toDs : List Tr → List D
  | [] => []
  | u :: ts => Tr.toD u :: Tr.toDs ts
end
def asS : Sl → Option D
  | .tr t => some t.toD
  | .ow _ (.lst xs) => some (.lst xs)
  | .ow _ (.ins C fs) => some (.obj C fs)
  | .ll rows => some (.lst (rows.map D.lst))
  | _ => none
section
variable {K : PySem.W.Frag} {F F' F0 : Fz} {H H' H0 : Hp} {δ : Env3} {σ : L2.St} {i : Nat} {s : Sl} {x : D}
def bind (F T : Fz) : Fz := fun a => F a ∨ T a
theorem le_bind (F T : Fz) (H : Hp) : Le F H (L3.bind F T) H := ⟨fun _ z => .inl z, fun _ _ _ z => z, fun _ _ z => z, fun _ _ _ z => z⟩
theorem rows_as {T : Fz} : ∀ {as : List Addr} {rows : List (List D)}, Rows K F H H0 as rows → (∀ a ∈ as, T a) → DVs K (L3.bind F T) H (as.map V.ref) (rows.map D.lst)
  | _, _, .nil, _ => .nil
  | _, _, .cons h1 h2 h3 h4 h5, hT => .cons (.lst (.inr (hT _ List.mem_cons_self)) h1 (DVs.le (le_bind F T H) _ _ h2)) (rows_as h5 fun a ha => hT a (List.mem_cons_of_mem _ ha))
mutual
theorem tr_as {T : Fz} : ∀ (t : Tr) {v : V} {as : List Addr}, TrR K F H H0 t v as → (∀ a ∈ as, T a) → DV K (L3.bind F T) H v t.toD
  | .d x, _, _, h, hT => by
    cases h with
    | d h => simpa only [Tr.toD] using DV.le (le_bind F T H) _ _ h
  | .l ts, _, _, h, hT => by
    cases h with
    | l h1 h2 h3 h4 =>
      simp only [Tr.toD]
      exact .lst (.inr (hT _ List.mem_cons_self)) h1 (trs_as ts h4 fun a ha => hT a (List.mem_cons_of_mem _ ha))
  | .t ts, _, _, h, hT => by
    cases h with
    | t h1 h2 =>
      simp only [Tr.toD]
      exact .tup (SqT.of h1) (trs_as ts h2 hT)
theorem trs_as {T : Fz} : ∀ (ts : List Tr) {vs : List V} {as : List Addr}, TrRs K F H H0 ts vs as → (∀ a ∈ as, T a) → DVs K (L3.bind F T) H vs (Tr.toDs ts)
  | [], _, _, h, hT => by
    cases h
    simp only [Tr.toDs]
    exact .nil
  | t :: ts, _, _, h, hT => by
    cases h with
    | cons h1 h2 =>
      simp only [Tr.toDs]
      exact .cons (tr_as t h1 fun a ha => hT a (List.mem_append_left _ ha)) (trs_as ts h2 fun a ha => hT a (List.mem_append_right _ ha))
end
theorem slr_as {v : Option V} {bs : List Addr} (r : SlR K F H H0 s v bs) (hx : asS s = some x) {T : Fz} (hT : ∀ a ∈ bs, T a) : SlR K (L3.bind F T) H H0 (.d x) v [] := by
  cases r with
  | tr h =>
    cases hx
    exact .d (tr_as _ h hT)
  | un => cases hx
  | d _ => cases hx
  | @own a o c q h1 h2 h3 h4 h5 =>
    have z : L3.bind F T a := .inr (hT a List.mem_cons_self)
    cases c with
    | lst xs =>
      cases hx
      obtain ⟨vs, rfl, r⟩ := h2
      exact .d (.lst z h1 (DVs.le (le_bind F T H) _ _ r))
    | ins C fs =>
      cases hx
      obtain ⟨dx, gs, rfl, r⟩ := h2
      exact .d (.obj z h1 (DFs.le (le_bind F T H) _ _ r))
    | set _ _ _ => cases hx
    | dk _ => cases hx
    | dt _ => cases hx
  | ll h1 h2 h3 h4 =>
    cases hx
    exact .d (.lst (.inr (hT _ List.mem_cons_self)) h1 (rows_as h4 fun a ha => hT a (List.mem_cons_of_mem _ ha)))
  | hole _ _ _ _ _ => cases hx
theorem Sls.take : ∀ {δ : Env3} {σ : L2.St} {as : List Addr} (i : Nat), Sls K F H H0 δ σ as → as.Nodup → δ[i]? = some s →
    ∃ v bs as', σ[i]? = some v ∧ SlR K F H H0 s v bs ∧ (∀ b ∈ bs, b ∈ as) ∧ bs.Nodup ∧ as'.Nodup ∧ (∀ b ∈ as', b ∈ as ∧ b ∉ bs) ∧ ∀ F' s', Le F H F' H → (∀ b ∈ as', ¬ F' b) → SlR K F' H H0 s' v [] → Sls K F' H H0 (δ.set i s') σ as'
  | _, _, _, _, .nil, _, e => by simp at e
  | _, _, _, 0, .cons (v := v) (as := bs) (bs := cs) h1 h2, nd, e => by
    have e2 := Option.some.inj (by simpa using e)
    subst e2
    obtain ⟨n1, n2, n3⟩ := List.nodup_append.mp nd
    refine ⟨v, bs, cs, rfl, h1, fun b hb => List.mem_append_left _ hb, n1, n2, fun b hb => ⟨List.mem_append_right _ hb, fun z => n3 b z b hb rfl⟩, fun F' s' l hf r => ?_⟩
    exact .cons (as := []) r (Sls.le l (fun b hb => ⟨rfl, hf b hb⟩) h2)
  | _, _, _, i + 1, .cons (as := as0) (bs := cs) h1 h2, nd, e => by
    obtain ⟨n1, n2, n3⟩ := List.nodup_append.mp nd
    obtain ⟨v, bs, as', e1, r, hb, nb, na, ha, k⟩ := Sls.take i h2 n2 (by simpa using e)
    refine ⟨v, bs, as0 ++ as', by simpa using e1, r, fun b h => List.mem_append_right _ (hb b h), nb, List.nodup_append.mpr ⟨n1, na, fun x hx y hy z => n3 x hx y (ha y hy).1 z⟩, fun b h => ?_, fun F' s' l hf r2 => ?_⟩
    · rcases List.mem_append.mp h with h | h
      · exact ⟨List.mem_append_left _ h, fun z => n3 b h b (hb b z) rfl⟩
      · exact ⟨List.mem_append_right _ (ha b h).1, (ha b h).2⟩
    · exact .cons (h1.le l fun b h => ⟨rfl, hf b (List.mem_append_left _ h)⟩) (k F' s' l (fun b h => hf b (List.mem_append_right _ h)) r2)
/-- an own object read as data: T is what it is made of -/
theorem Sta.tmp (S : Sta K F0 H0 δ σ F H) (e : δ[i]? = some s) (hx : asS s = some x) : ∃ T : Fz, (∀ a, T a → ¬ F a ∧ H0 a = none ∧ ∃ o, H a = some o) ∧ Sta K F0 H0 (δ.set i (.d x)) σ (L3.bind F T) H := by
  obtain ⟨as, hs, nd⟩ := S.sl
  obtain ⟨v, bs, as', e1, r, hb, nb, na, ha, k⟩ := hs.take i nd e
  refine ⟨fun a => a ∈ bs, fun a z => ?_, ⟨?_, as', k _ _ (le_bind F _ H) (fun b h z => ?_) (slr_as r hx fun a z => z), na⟩⟩
  · obtain ⟨o, f, n⟩ := hs.at_ a (hb a z)
    exact ⟨f, n, o⟩
  · refine ⟨fun b hb => .inl (S.gr.sub b hb), S.gr.keep, fun b hb2 => ?_, fun b hb2 => ?_⟩
    · rcases hb2 with hb2 | hb2
      · exact S.gr.new b hb2
      · exact .inr (hs.at_ b (hb b hb2)).2.2
    · rcases hb2 with hb2 | hb2
      · exact S.gr.dom b hb2
      · exact (hs.at_ b (hb b hb2)).1
  · rcases z with z | z
    · exact (hs.at_ b (ha b h).1).2.1 z
    · exact (ha b h).2 z
end
section
variable {K : PySem.W.Frag} {B : Bs} {δ : Env3} {te : TE} {t : TT} {ts : TS} {d x : D} {s : Sl} {ys : List D} {b : Bool} {D' : De}
theorem ev_tm (i : Nat) (h : δ[i]? = some s) (hx : asS s = some x) (hp : d.pure = true) (he : Ev K (δ.set i (.d x)) te d) : Ev K δ te d := fun F0 H0 σ F H S Q q => by
  obtain ⟨T, hT, S2⟩ := S.tmp h hx
  exact he F0 H0 σ _ H S2 Q fun v F' H' g r => q v F H' ⟨fun _ z => z, g.keep, fun b hb => .inl hb, fun b hb => g.dom b (g.sub b (.inl hb))⟩ (DV.any d v hp r)
theorem evt_tm (i : Nat) (h : δ[i]? = some s) (hx : asS s = some x) (he : Evt K (δ.set i (.d x)) t b) : Evt K δ t b := fun F0 H0 σ F H S Q q => by
  obtain ⟨T, hT, S2⟩ := S.tmp h hx
  exact he F0 H0 σ _ H S2 Q fun F' H' g => q F H' ⟨fun _ z => z, g.keep, fun b hb => .inl hb, fun b hb => g.dom b (g.sub b (.inl hb))⟩
theorem evl_tm (i : Nat) (h : δ[i]? = some s) (hx : asS s = some x) (hp : D.pures ys = true) (he : Evl K (δ.set i (.d x)) te ys) : Evl K δ te ys := fun F0 H0 σ F H S Q q => by
  obtain ⟨T, hT, S2⟩ := S.tmp h hx
  exact he F0 H0 σ _ H S2 Q fun p ws F' H' g hn nf2 e r => q p ws F H' ⟨fun _ z => z, g.keep, fun b hb => .inl hb, fun b hb => g.dom b (g.sub b (.inl hb))⟩ hn (fun z => nf2 (g.sub p (.inl z))) e (DVs.any ys ws hp r)
/-- for good -/
theorem s_fz (i : Nat) (h : δ[i]? = some s) (hx : asS s = some x) (k : SD K B ts (δ.set i (.d x)) D') : SD K B ts δ D' := fun σ F H Dn S L => by
  obtain ⟨T, hT, S2⟩ := S.tmp h hx
  exact k σ _ H Dn S2 (L.from (le_bind F T H))
/-- fields without lists and instances -/
def puresF (fs : List (Str × D)) : Bool := fs.all fun p => p.2.pure
theorem DFs.any {F F2 : Fz} {H : Hp} : ∀ {gs : List (Str × V)} {fs : List (Str × D)}, puresF fs = true → DFs K F H gs fs → DFs K F2 H gs fs
  | _, [], _, h => by cases h; exact .nil
  | _, (f, d) :: fs, p, h => by
    cases h with
    | cons h1 h2 =>
      have p2 : (d.pure && puresF fs) = true := p
      obtain ⟨p3, p4⟩ := Bool.and_eq_true_iff.mp p2
      exact .cons (DV.any d _ p3 h1) (DFs.any p4 h2)
/-- an instance is made that keeps nothing of the own list -/
theorem ev_tmo (i : Nat) {C : Addr} {fs : List (Str × D)} (h : δ[i]? = some s) (hx : asS s = some x) (hl : ∀ C' fs', x ≠ .obj C' fs') (hp : puresF fs = true) (he : Ev K (δ.set i (.d x)) te (.obj C fs)) : Ev K δ te (.obj C fs) := fun F0 H0 σ F H S Q q => by
  obtain ⟨as, hs, nd⟩ := S.sl
  obtain ⟨v0, bs, as', e1, r, hb, nb, na, ha, k⟩ := hs.take i nd h
  have lists : ∀ a ∈ bs, ∀ C dx gs, H a ≠ some (.ins C dx gs) := by
    intro a ha C dx gs e
    cases r with
    | tr hr =>
      obtain ⟨⟨vs, e2⟩, _⟩ := TrR.at_ _ hr a ha
      rw [e2] at e
      cases e
    | un => cases ha
    | d _ => cases ha
    | @own a' o c q' h1 h2 h3 h4 h5 =>
      obtain rfl : a = a' := by simpa using ha
      rw [h1] at e
      cases e
      cases c with
      | lst xs =>
        obtain ⟨_, z, _⟩ := h2
        cases z
      | ins C fs =>
        cases hx
        exact hl _ _ rfl
      | set _ _ _ => cases hx
      | dk _ => cases hx
      | dt _ => cases hx
    | ll h1 h2 h3 h4 =>
      rcases List.mem_cons.mp ha with rfl | ha
      · rw [h1] at e
        cases e
      · have : ∀ {as : List Addr} {rows : List (List D)}, Rows K F H H0 as rows → a ∈ as → ∃ vs, H a = some (.lst vs) := by
          intro as rows hr
          induction hr with
          | nil =>
            intro z
            cases z
          | cons g1 g2 g3 g4 g5 ih =>
            intro z
            rcases List.mem_cons.mp z with rfl | z
            · exact ⟨_, g1⟩
            · exact ih z
        obtain ⟨vs, e3⟩ := this h4 ha
        rw [e3] at e
        cases e
    | hole _ _ _ _ _ => cases hx
  have gr2 : Gr F0 H0 (L3.bind F fun a => a ∈ bs) H := by
    refine ⟨fun b hb => .inl (S.gr.sub b hb), S.gr.keep, fun b hb2 => ?_, fun b hb2 => ?_⟩
    · rcases hb2 with hb2 | hb2
      · exact S.gr.new b hb2
      · exact .inr (hs.at_ b (hb b hb2)).2.2
    · rcases hb2 with hb2 | hb2
      · exact S.gr.dom b hb2
      · exact (hs.at_ b (hb b hb2)).1
  have S2 : Sta K F0 H0 (δ.set i (.d x)) σ (L3.bind F fun a => a ∈ bs) H := ⟨gr2, as', k _ _ (le_bind F _ H) (fun b h z => by
    rcases z with z | z
    · exact (hs.at_ b (ha b h).1).2.1 z
    · exact (ha b h).2 z) (slr_as r hx fun a z => z), na⟩
  refine he F0 H0 σ _ H S2 Q fun v F' H' g r => q v (fun b => F b ∨ (F' b ∧ H b = none)) H' ⟨fun _ z => .inl z, g.keep, fun b hb => ?_, fun b hb => ?_⟩ ?_
  · rcases hb with hb | hb
    · exact .inl hb
    · exact .inr hb.2
  · rcases hb with hb | hb
    · exact g.dom b (g.sub b (.inl hb))
    · exact g.dom b hb.1
  · cases r with
    | @obj a _ dx gs _ h1 h2 h3 =>
      refine .obj ?_ h2 (DFs.any hp h3)
      rcases g.new a h1 with z | z
      · rcases z with z | z
        · exact .inl z
        · obtain ⟨o, eo⟩ := (hs.at_ a (hb a z)).1
          have e2 := g.keep a o eo
          rw [h2] at e2
          cases e2
          exact absurd eo (lists a z _ _ _)
      · exact .inr ⟨h1, z⟩
end
end L3
set_option Elab.async false
set_option linter.all false
set_option maxRecDepth 100000
set_option maxHeartbeats 4000000
/-! Lists of lists; isinstance; ==; sorted. -/
namespace L3
open PySem PySem.Spec PyProof.Rows L2

/-! ### own lists of own lists -/
section
variable (K : PySem.W.Frag) (δ : Env3)
def Evll (te : TE) (rows : List (List D)) : Prop := ∀ F0 H0 σ F H, Sta K F0 H0 δ σ F H → ∀ Q : VK, (∀ (a : Addr) (as : List Addr) F' H', Gr F H F' H' → H a = none → ¬ F' a → H' a = some (.lst (as.map V.ref)) → Rows K F' H' H as rows → a ∉ as → as.Nodup → Q (.ref a) H') → te σ H Q
end
section
variable {K : PySem.W.Frag} {F F' F0 : Fz} {H H' H0 H1 : Hp} {δ : Env3} {σ : L2.St} {i : Nat} {s : Sl} {x d : D}
theorem Rows.base (h : ∀ a, H0 a = none → H1 a = none) : ∀ {as : List Addr} {rows : List (List D)}, Rows K F H H0 as rows → Rows K F H H1 as rows
  | _, _, .nil => .nil
  | _, _, .cons h1 h2 h3 h4 h5 => .cons h1 h2 h3 (h _ h4) (Rows.base h h5)
theorem Rows.snoc {p : Addr} {vs : List V} {ds : List D} (h1 : H p = some (.lst vs)) (h2 : DVs K F H vs ds) (h3 : ¬ F p) (h4 : H0 p = none) : ∀ {as : List Addr} {rows : List (List D)}, Rows K F H H0 as rows → Rows K F H H0 (as ++ [p]) (rows ++ [ds])
  | _, _, .nil => .cons h1 h2 h3 h4 .nil
  | _, _, .cons g1 g2 g3 g4 g5 => .cons g1 g2 g3 g4 (Rows.snoc h1 h2 h3 h4 g5)
theorem Rows.len : ∀ {as : List Addr} {rows : List (List D)}, Rows K F H H0 as rows → as.length = rows.length
  | _, _, .nil => rfl
  | _, _, .cons _ _ _ _ h5 => congrArg Nat.succ (Rows.len h5)
/-- a new list of lists into a slot -/
theorem Sta.setll (S : Sta K F0 H0 δ σ F H) (g : Gr F H F' H') {a : Addr} {as : List Addr} {rows : List (List D)} (i : Nat) (ha : H a = none) (e : H' a = some (.lst (as.map V.ref))) (hF : ¬ F' a) (r : Rows K F' H' H as rows) (na : a ∉ as) (nd : as.Nodup) : Sta K F0 H0 (δ.set i (.ll rows)) (σ.set i (some (.ref a))) F' H' := by
  have S2 := S.go g
  obtain ⟨as0, h, nd0⟩ := S.sl
  have out : ∀ b, H b = none → b ∉ as0 := fun b hb hm => by
    obtain ⟨⟨u, eu⟩, _, _⟩ := h.at_ b hm
    rw [hb] at eu
    cases eu
  have h' := Sls.le g.le (fun b hb => by
    obtain ⟨⟨u, eu⟩, nf, _⟩ := h.at_ b hb
    refine ⟨(g.keep b u eu).trans eu.symm, fun z => ?_⟩
    rcases g.new b z with z | z
    · exact nf z
    · rw [eu] at z
      cases z) h
  have r0 : Rows K F' H' H0 as rows := r.base fun b hb => S.gr.back hb
  obtain ⟨as', q4, q5, _⟩ := h'.set (.ll e hF (S.gr.back ha) r0) (List.nodup_cons.mpr ⟨na, nd⟩) i nd0 fun b hb => by
    rcases List.mem_cons.mp hb with rfl | hb
    · exact out _ ha
    · exact out _ (Rows.at_ r b hb).2.2
  exact ⟨S2.gr, as', q4, q5⟩
/-- the lists of a list of lists, and how one is written -/
theorem Rows.set : ∀ {as : List Addr} {rows : List (List D)} {row : List D} (r : Nat), Rows K F H H0 as rows → as.Nodup → rows[r]? = some row →
    ∃ p vs, as[r]? = some p ∧ H p = some (.lst vs) ∧ DVs K F H vs row ∧ ¬ F p ∧ H0 p = none ∧ p ∈ as ∧ ∀ H' vs' row', (∀ b, b ≠ p → H' b = H b) → Le F H F H' → H' p = some (.lst vs') → DVs K F H' vs' row' → Rows K F H' H0 as (rows.set r row')
  | _, _, _, _, .nil, _, e => by simp at e
  | a :: as, _, _, 0, .cons h1 h2 h3 h4 h5, nd, e => by
    have e2 := Option.some.inj (by simpa using e)
    subst e2
    obtain ⟨n1, n2⟩ := List.nodup_cons.mp nd
    exact ⟨a, _, rfl, h1, h2, h3, h4, List.mem_cons_self, fun H' vs' row' hk l e' r' => .cons e' r' h3 h4 (Rows.le l (fun b hb => ⟨hk b fun z => n1 (z ▸ hb), (Rows.at_ h5 b hb).2.1⟩) h5)⟩
  | a :: as, _, _, r + 1, .cons h1 h2 h3 h4 h5, nd, e => by
    obtain ⟨n1, n2⟩ := List.nodup_cons.mp nd
    obtain ⟨p, vs, e1, g1, g2, g3, g4, g5, k⟩ := Rows.set r h5 n2 (by simpa using e)
    refine ⟨p, vs, by simpa using e1, g1, g2, g3, g4, List.mem_cons_of_mem _ g5, fun H' vs' row' hk l e' r' => .cons ?_ (DVs.le l _ _ h2) h3 h4 (k H' vs' row' hk l e' r')⟩
    rw [hk a fun z => n1 (z ▸ g5)]
    exact h1
mutual
theorem TrR.fix : ∀ (t : Tr) {v : V} {b1 b2 : List Addr}, TrR K F H H0 t v b1 → TrR K F H H0 t v b2 → b1 = b2
  | .d x, _, _, _, h1, h2 => by
    cases h1
    cases h2
    rfl
  | .l ts, _, _, _, h1, h2 => by
    cases h1 with
    | l a1 a2 a3 a4 =>
      cases h2 with
      | l c1 c2 c3 c4 =>
        rw [a1] at c1
        cases c1
        rw [TrRs.fix ts a4 c4]
  | .t ts, _, _, _, h1, h2 => by
    cases h1 with
    | t a1 a4 =>
      cases h2 with
      | t c1 c4 =>
        rw [a1] at c1
        cases c1
        exact TrRs.fix ts a4 c4
theorem TrRs.fix : ∀ (ts : List Tr) {vs : List V} {b1 b2 : List Addr}, TrRs K F H H0 ts vs b1 → TrRs K F H H0 ts vs b2 → b1 = b2
  | [], _, _, _, h1, h2 => by
    cases h1
    cases h2
    rfl
  | t :: ts, _, _, _, h1, h2 => by
    cases h1 with
    | cons a1 a2 =>
      cases h2 with
      | cons c1 c2 => rw [TrR.fix t a1 c1, TrRs.fix ts a2 c2]
end
theorem Sls.repl : ∀ {δ : Env3} {σ : L2.St} {as : List Addr} (i : Nat), Sls K F H H0 δ σ as → as.Nodup → δ[i]? = some s →
    ∃ v bs, σ[i]? = some v ∧ SlR K F H H0 s v bs ∧ bs.Nodup ∧ ∀ H' s', Le F H F H' → (∀ b, b ∉ bs → H' b = H b) → SlR K F H' H0 s' v bs → Sls K F H' H0 (δ.set i s') σ as
  | _, _, _, _, .nil, _, e => by simp at e
  | _, _, _, 0, .cons (v := v) (as := bs) (bs := cs) h1 h2, nd, e => by
    have e2 := Option.some.inj (by simpa using e)
    subst e2
    obtain ⟨n1, n2, n3⟩ := List.nodup_append.mp nd
    exact ⟨v, bs, rfl, h1, n1, fun H' s' l hk r => .cons r (Sls.le l (fun b hb => ⟨hk b fun z => n3 b z b hb rfl, (h2.at_ b hb).2.1⟩) h2)⟩
  | _, _, _, i + 1, .cons (as := as0) (bs := cs) h1 h2, nd, e => by
    obtain ⟨n1, n2, n3⟩ := List.nodup_append.mp nd
    obtain ⟨v, bs, e1, r, nb, k⟩ := Sls.repl i h2 n2 (by simpa using e)
    obtain ⟨v', bs', as', f1, r2, hb, _⟩ := h2.take i n2 (by simpa using e)
    have sub : ∀ b ∈ bs, b ∈ cs := by
      have key : ∀ {v : Option V} {b1 b2 : List Addr}, SlR K F H H0 s v b1 → SlR K F H H0 s v b2 → b1 = b2 := by
        intro v b1 b2 q1 q2
        cases q1 with
        | tr g1 =>
          cases q2 with
          | tr g2 => exact TrR.fix _ g1 g2
        | un => cases q2 <;> rfl
        | d _ => cases q2 <;> rfl
        | own _ _ _ _ _ => cases q2 <;> rfl
        | ll g1 _ _ _ =>
          cases q2 with
          | ll g2 _ _ _ =>
            rw [g1] at g2
            have z := HO.lst.inj (Option.some.inj g2)
            have inj : ∀ (l m : List Addr), l.map V.ref = m.map V.ref → l = m := by
              intro l
              induction l with
              | nil =>
                intro m z
                cases m with
                | nil => rfl
                | cons _ _ => cases z
              | cons a l ih =>
                intro m z
                cases m with
                | nil => cases z
                | cons b m =>
                  have z' : V.ref a :: l.map V.ref = V.ref b :: m.map V.ref := z
                  injection z' with z1 z2
                  injection z1 with z1
                  rw [z1, ih m z2]
            rw [inj _ _ z]
        | hole g1 _ _ g4 _ =>
          cases q2 with
          | hole g2 _ _ g5 _ =>
            rw [g1] at g2
            have z := HO.lst.inj (Option.some.inj g2)
            have inj : ∀ (l m : List Addr), l.map V.ref = m.map V.ref → l = m := by
              intro l
              induction l with
              | nil =>
                intro m z
                cases m with
                | nil => rfl
                | cons _ _ => cases z
              | cons a l ih =>
                intro m z
                cases m with
                | nil => cases z
                | cons b m =>
                  have z' : V.ref a :: l.map V.ref = V.ref b :: m.map V.ref := z
                  injection z' with z1 z2
                  injection z1 with z1
                  rw [z1, ih m z2]
            have z2 := inj _ _ z
            obtain ⟨y1, y2⟩ := List.append_inj z2 (by rw [g4.len, g5.len])
            rw [y1, (List.cons.inj y2).2]
      have ev : v = v' := by
        rw [f1] at e1
        exact (Option.some.inj e1).symm
      subst ev
      rw [key r r2]
      exact hb
    refine ⟨v, bs, by simpa using e1, r, nb, fun H' s' l hk r2 => .cons (h1.le l fun b hb2 => ⟨hk b fun z => n3 b hb2 b (sub b z) rfl, (h1.at_ b hb2).2.1⟩) (k H' s' l hk r2)⟩
theorem Sta.row {rows : List (List D)} (S : Sta K F0 H0 δ σ F H) (h : δ[i]? = some (.ll rows)) : ∃ (a : Addr) (as : List Addr), σ[i]? = some (some (.ref a)) ∧ H a = some (.lst (as.map V.ref)) ∧ as.length = rows.length ∧ ∀ r row, rows[r]? = some row →
    ∃ p vs, as[r]? = some p ∧ H p = some (.lst vs) ∧ DVs K F H vs row ∧ ¬ F p ∧ ∀ vs' row', DVs K F (upd H p (.lst vs')) vs' row' → Sta K F0 H0 (δ.set i (.ll (rows.set r row'))) σ F (upd H p (.lst vs')) ∧ Le F H F (upd H p (.lst vs')) := by
  obtain ⟨as0, hs, nd⟩ := S.sl
  obtain ⟨v, bs, e1, r, nb, k⟩ := hs.repl i nd h
  cases r with
  | @ll a as _ h1 h2 h3 h4 =>
    obtain ⟨n1, n2⟩ := List.nodup_cons.mp nb
    refine ⟨a, as, e1, h1, h4.len, fun r row er => ?_⟩
    obtain ⟨p, vs, f1, f2, f3, f4, f5, f6, kr⟩ := h4.set r n2 er
    refine ⟨p, vs, f1, f2, f3, f4, fun vs' row' r' => ?_⟩
    have l : Le F H F (upd H p (.lst vs')) := Le.mut f4 f2 trivial
    have ne : a ≠ p := fun z => n1 (z ▸ f6)
    refine ⟨⟨⟨S.gr.sub, fun b u eb => ?_, S.gr.new, fun b hb => ?_⟩, as0, k _ _ l (fun b hb => upd_ne fun z => hb (by rw [z]; exact List.mem_cons_of_mem _ f6)) (.ll (by rw [upd_ne ne]; exact h1) h2 h3 (kr _ vs' row' (fun b hb => upd_ne hb) l upd_same r')), nd⟩, l⟩
    · rw [upd_ne (ne_of_none eb f5)]
      exact S.gr.keep b u eb
    · obtain ⟨u, eu⟩ := S.gr.dom b hb
      exact ⟨u, l.keep b u hb eu⟩
end
section
variable {K : PySem.W.Frag} {B : Bs} {δ : Env3} {te ta tb tc : TE} {tA : TA} {tt : TT} {ts : TS} {d x y : D} {s : Sl} {ds xs ys row : List D} {rows : List (List D)} {b : Bool} {D' : De} {i : Nat}
theorem s_setll (h : Evll K δ te rows) (k : D'.nx (δ.set i (.ll rows))) : SD K B (tAsg te (gName i)) δ D' := fun σ F H Dn S L => h _ _ σ F H S _ fun a as F1 H1 g1 ha nf e r na nd =>
  L.nx _ _ F1 H1 k (S.setll g1 i ha e nf r na nd) g1.le
/-- m[k][l] = e -/
theorem s_set2 {k l : Int} {j c : Nat} (h : δ[i]? = some (.ll rows)) (he : Ev K δ te d) (hk : Ev K δ ta (.int k)) (hl : Ev K δ tb (.int l)) (hj : ixN rows.length k = some j) (hr : rows[j]? = some row) (hc : ixN row.length l = some c) (kk : D'.nx (δ.set i (.ll (rows.set j (row.set c d))))) :
    SD K B (tAsg te (gSub (tOp (rIxL K) (tVar i) ta) tb rSetL)) δ D' := fun σ F H Dn S L => he _ _ σ F H S _ fun v F1 H1 g1 r1 => by
  obtain ⟨a, as, e1, _⟩ := (S.go g1).row h
  refine ⟨_, e1, hk _ _ σ F1 H1 (S.go g1) _ fun w F2 H2 g2 r2 => ?_⟩
  cases r2
  obtain ⟨a2, as2, e3, e4, hlen, rw2⟩ := ((S.go g1).go g2).row h
  rw [e1] at e3
  cases e3
  obtain ⟨p, vs, f1, f2, f3, f4, _⟩ := rw2 j row hr
  refine ⟨a, as2.map V.ref, k, .ref p, rfl, rfl, SqL.of e4, ?_, hl _ _ σ F2 H2 ((S.go g1).go g2) _ fun w3 F3 H3 g3 r3 => ?_⟩
  · unfold atI
    rw [List.length_map, hlen, hj]
    show (as2.map V.ref)[j]? = _
    rw [List.getElem?_map, f1]
    rfl
  · cases r3
    have S3 := ((S.go g1).go g2).go g3
    obtain ⟨a3, as3, e5, e6, hlen3, rw3⟩ := S3.row h
    rw [e1] at e5
    cases e5
    have e7 := g3.keep _ _ e4
    rw [e6] at e7
    have eas : as3.map V.ref = as2.map V.ref := HO.lst.inj (Option.some.inj e7)
    obtain ⟨p3, vs3, q1, q2, q3, q4, wr⟩ := rw3 j row hr
    have ep : p3 = p := by
      have z : (as3.map V.ref)[j]? = some (V.ref p3) := by
        rw [List.getElem?_map, q1]
        rfl
      rw [eas, List.getElem?_map, f1] at z
      have z' : some (V.ref p) = some (V.ref p3) := z
      cases z'
      rfl
    subst ep
    have l4 : Le F3 H3 F3 (upd H3 p3 (.lst (vs3.set c v))) := Le.mut q4 q2 trivial
    obtain ⟨S4, l5⟩ := wr (vs3.set c v) (row.set c d) (DVs.set c (DVs.le l4 _ _ q3) (DV.le ((g2.le.trans g3.le).trans l4) _ _ r1))
    exact ⟨p3, vs3, l, c, rfl, rfl, q2, by rw [q3.length]; exact hc, L.nx _ _ F3 _ kk S4 (((g1.le.trans g2.le).trans g3.le).trans l5)⟩
/-- m[k][l] op= e, ints -/
theorem s_aug2 {f : Int → Int → Int} {k l m n : Int} {j c : Nat} (h : δ[i]? = some (.ll rows)) (hk : Ev K δ ta (.int k)) (hl : Ev K δ tb (.int l)) (hj : ixN rows.length k = some j) (hr : rows[j]? = some row) (hc : ixN row.length l = some c) (hm : row[c]? = some (.int m)) (he : Ev K δ te (.int n)) (kk : D'.nx (δ.set i (.ll (rows.set j (row.set c (.int (f m n))))))) :
    SD K B (tAugS (tOp (rIxL K) (tVar i) ta) tb te (rIxL K) (ipI f) rSetL) δ D' := fun σ F H Dn S L => by
  obtain ⟨a, as, e1, _⟩ := S.row h
  refine ⟨_, e1, hk _ _ σ F H S _ fun w F2 H2 g2 r2 => ?_⟩
  cases r2
  obtain ⟨a2, as2, e3, e4, hlen, rw2⟩ := (S.go g2).row h
  rw [e1] at e3
  cases e3
  obtain ⟨p, vs, f1, f2, f3, f4, _⟩ := rw2 j row hr
  refine ⟨a, as2.map V.ref, k, .ref p, rfl, rfl, SqL.of e4, ?_, hl _ _ σ F2 H2 (S.go g2) _ fun w3 F3 H3 g3 r3 => ?_⟩
  · unfold atI
    rw [List.length_map, hlen, hj]
    show (as2.map V.ref)[j]? = _
    rw [List.getElem?_map, f1]
    rfl
  · cases r3
    have g23 := g2.trans g3
    have f2' := g3.keep _ _ f2
    have f3' := DVs.le g3.le _ _ f3
    obtain ⟨v, e5, r5⟩ := f3'.get hm
    cases r5
    refine ⟨p, vs, l, .int m, rfl, rfl, SqL.of f2', ?_, he _ _ σ F3 H3 (S.go g23) _ fun w4 F4 H4 g4 r4 => ?_⟩
    · unfold atI
      rw [f3'.length, hc]
      exact e5
    · cases r4
      refine ⟨m, n, rfl, rfl, ?_⟩
      have S4 := S.go (g23.trans g4)
      obtain ⟨a3, as3, e6, e7, hlen3, rw3⟩ := S4.row h
      rw [e1] at e6
      cases e6
      have e8 := (g3.trans g4).keep _ _ e4
      rw [e7] at e8
      have eas : as3.map V.ref = as2.map V.ref := HO.lst.inj (Option.some.inj e8)
      obtain ⟨p3, vs3, q1, q2, q3, q4, wr⟩ := rw3 j row hr
      have ep : p3 = p := by
        have z : (as3.map V.ref)[j]? = some (V.ref p3) := by
          rw [List.getElem?_map, q1]
          rfl
        rw [eas, List.getElem?_map, f1] at z
        have z' : some (V.ref p) = some (V.ref p3) := z
        cases z'
        rfl
      subst ep
      have l4 : Le F4 H4 F4 (upd H4 p3 (.lst (vs3.set c (.int (f m n))))) := Le.mut q4 q2 trivial
      obtain ⟨S5, l5⟩ := wr (vs3.set c (.int (f m n))) (row.set c (.int (f m n))) (DVs.set c (DVs.le l4 _ _ q3) (.int _))
      exact ⟨p3, vs3, l, c, rfl, rfl, q2, by rw [q3.length]; exact hc, L.nx _ _ F4 _ kk S5 ((g23.trans g4).le.trans l5)⟩
/-- [.. for ..], each item a new list -/
theorem evll_lc {wi : TI} {g : TG} {own js : List Nat} {n : Nat} {item : Nat → D} (p : Nat → Bool) (e : Nat → List D) (hs : Src K δ wi n item) (hn : n ≤ 100000) (hj : ∀ j ∈ js, j ∈ own)
    (hb : ∀ i, i < n → GD K js g (item i) (wipeD δ own) fun δ2 => Evt K δ2 tt (p i) ∧ (p i = true → Evl K δ2 te (e i))) : Evll K δ (tLc wi g tt te own) (((List.range n).filter p).map e) := fun F0 H0 σ F H S Q q =>
  hs F0 H0 σ F H S _ fun J F1 H1 g1 ok dD hD => by
    have S1 := S.go g1
    have nFD : ¬ F1 dD := fun z => by
      obtain ⟨o, e1⟩ := g1.dom dD z
      rw [hD] at e1
      cases e1
    refine ⟨fun i m H' => m = n - i ∧ i ≤ n ∧ ∃ F' as, Gr F1 H1 F' H' ∧ ¬ F' dD ∧ H' dD = some (.lst (as.map V.ref)) ∧ Rows K F' H' H1 as (((List.range i).filter p).map e) ∧ dD ∉ as ∧ as.Nodup,
      ⟨n, rfl, Nat.zero_le _, F1, [], (Gr.refl g1.dom).upd hD, nFD, upd_same, .nil, by simp, List.nodup_nil⟩, ?_⟩
    rintro i m H' ⟨rfl, hi, F', as, gr, nf, eD, rv, nD, nd⟩
    by_cases hlt : i < n
    · refine .inr ⟨ok.go i F' H' hlt gr.le, fun H'' => i + 1 ≤ n ∧ ∃ F' as, Gr F1 H1 F' H'' ∧ ¬ F' dD ∧ H'' dD = some (.lst (as.map V.ref)) ∧ Rows K F' H'' H1 as (((List.range (i + 1)).filter p).map e) ∧ dD ∉ as ∧ as.Nodup, fun H'' h => ⟨n - (i + 1), by omega, rfl, h⟩, fun x H2 y => ?_⟩
      obtain ⟨g2, r2⟩ := ok.yld i x F' H' H2 hlt gr.le gr.dom y
      have g12 := gr.trans g2
      have S2 := sta_wipe (S1.go g12) own
      refine hb i hlt F0 H0 (wipe σ own) F' H2 x S2 r2 _ fun δ2 σ2 pp S3 w2 => ⟨(w2 own hj).trans (wipe_wipe σ own), ?_⟩
      obtain ⟨ht, he⟩ := pp
      have eD2 := g2.keep _ _ eD
      have keepR : ∀ {Fa Fb : Fz} {Ha Hb : Hp} {as : List Addr} {rs : List (List D)}, Gr Fa Ha Fb Hb → Rows K Fa Ha H1 as rs → Rows K Fb Hb H1 as rs := fun {Fa Fb Ha Hb as rs} g r => r.le g.le fun b hb => by
        obtain ⟨⟨u, eu⟩, nfb, _⟩ := Rows.at_ r b hb
        refine ⟨(g.keep b u eu).trans eu.symm, fun z => ?_⟩
        rcases g.new b z with z | z
        · exact nfb z
        · rw [eu] at z
          cases z
      have rv2 := keepR g2 rv
      refine ht F0 H0 σ2 F' H2 S3 _ fun F3 H3 g3 => ?_
      cases hp : p i with
      | true =>
        rw [if_pos rfl]
        refine he hp F0 H0 σ2 F3 H3 (S3.go g3) _ fun a vs F4 H4 g4 hna nfa ea r4 => ?_
        have g24 := g3.trans g4
        have eD4 := g24.keep _ _ eD2
        have nf4 : ¬ F4 dD := fun z => by
          rcases g24.new dD z with z | z
          · exact nf z
          · rw [eD2] at z
            cases z
        have rv4 := keepR g24 rv2
        have l4 : Le F4 H4 F4 (upd H4 dD (.lst (as.map V.ref ++ [V.ref a]))) := Le.mut nf4 eD4 trivial
        have naD : a ≠ dD := fun z => by
          have := g3.keep _ _ eD2
          rw [z, this] at hna
          cases hna
        have nas : a ∉ as := fun hm => by
          obtain ⟨⟨u, eu⟩, _, _⟩ := Rows.at_ rv2 a hm
          have := g3.keep _ _ eu
          rw [this] at hna
          cases hna
        have h1a : H1 a = none := (g12.trans g3).back hna
        refine ⟨as.map V.ref, eD4, ?_, hlt, F4, as ++ [a], ?_, nf4, by rw [List.map_append]; exact upd_same, ?_, ?_, ?_⟩
        · have z1 := rv.len
          have z2 := List.length_filter_le p (List.range i)
          rw [List.length_map] at z1
          rw [List.length_range] at z2
          rw [List.length_map]
          exact sz5l (by omega)
        · have g14 := g12.trans g24
          refine ⟨g14.sub, fun a o ea => ?_, g14.new, fun a ha => ?_⟩
          · rw [upd_ne (ne_of_none ea hD)]
            exact g14.keep a o ea
          · obtain ⟨o, eo⟩ := g14.dom a ha
            exact ⟨o, l4.keep a o ha eo⟩
        · rw [range_step, hp, if_pos rfl]
          refine Rows.snoc (by rw [upd_ne naD]; exact ea) (DVs.le l4 _ _ r4) nfa h1a (rv4.le l4 fun b hb => ⟨upd_ne fun z => nD (z ▸ hb), (Rows.at_ rv4 b hb).2.1⟩)
        · intro hm
          rcases List.mem_append.mp hm with hm | hm
          · exact nD hm
          · have : dD = a := by simpa using hm
            exact naD this.symm
        · exact List.nodup_append.mpr ⟨nd, List.nodup_cons.mpr ⟨by simp, List.nodup_nil⟩, fun x hx y hy z => by
            have : y = a := by simpa using hy
            subst this
            subst z
            exact nas hx⟩
      | false =>
        rw [if_neg Bool.false_ne_true]
        refine ⟨hlt, F3, as, g12.trans g3, fun z => ?_, g3.keep _ _ eD2, ?_, nD, nd⟩
        · rcases g3.new dD z with z | z
          · exact nf z
          · rw [eD2] at z
            cases z
        · rw [range_step, hp, if_neg Bool.false_ne_true, List.append_nil]
          exact keepR g3 rv2
    · have ei : i = n := by omega
      subst ei
      exact .inl ⟨ok.stop F' H' gr.le, q dD as F' H' (g1.trans gr) (g1.back hD) nf eD (rv.base fun a ha => g1.back ha) nD nd⟩

/-! ### isinstance -/
def tyD : D → Option String
  | .non => some "NoneType"
  | .bl _ => some "bool"
  | .int _ => some "int"
  | .str _ => some "str"
  | .lst _ => some "list"
  | .tup _ => some "tuple"
  | .scr _ => some "list"
  | _ => none
theorem tyD_ok {F : Fz} {H : Hp} {v : V} {t : String} (h : DV K F H v x) (e : tyD x = some t) : TyX K H v (.type t) := by
  cases h with
  | non => cases e; exact .base .non
  | bl b => cases e; exact .base (.bl b)
  | int i => cases e; exact .base (.int i)
  | str s => cases e; exact .base (.str s)
  | lst _ h2 _ => cases e; exact .base (.lst h2)
  | tup h1 h2 =>
    cases e
    rcases h1 with (h1 | ⟨o, h1⟩) | ⟨o, its, n, h1, hc, _⟩
    · exact .base (.tup h1)
    · exact .fTuple h1
    · exact .kTuple h1 hc
  | obj _ _ _ => cases e
  | scr h1 =>
    cases e
    rcases h1 with ⟨o, h1⟩ | ⟨o, its, n, h1, hc, _⟩
    · exact .base (.frz h1)
    · exact .kList h1 hc
  | ref _ => cases e
  | ty _ => cases e
  | exn _ _ _ => cases e
def kitBs (t : String) : List String → Option Bool
  | [] => some false
  | c :: cs => match kitB t c, kitBs t cs with
    | some b, some d => some (b || d)
    | _, _ => none
theorem kitBs_ok {K : PySem.W.Frag} {t : String} : ∀ {cs : List String} {b : Bool}, kitBs t cs = some b → PySem.W.kitAny K (.type t) (cs.map Value.type) = some b
  | [], b, h => by
    have : b = false := by
      have h' : some false = some b := h
      exact (Option.some.inj h').symm
    subst this
    rfl
  | c :: cs, b, h => by
    unfold kitBs at h
    cases e1 : kitB t c with
    | none => simp [e1] at h
    | some b1 =>
      cases e2 : kitBs t cs with
      | none => simp [e1, e2] at h
      | some b2 =>
        simp only [e1, e2] at h
        have h' : (b1 || b2) = b := Option.some.inj h
        refine kitAny_cons (kit_ty e1) (fun z => ?_) (fun z => ?_)
        · subst z
          rw [← h', Bool.false_or]
          exact kitBs_ok e2
        · subst z
          rw [← h', Bool.true_or]
theorem ev_isi {t n : String} (h : Ev K δ te x) (ht : tyD x = some t) (hb : kitB t n = some b) : Ev K δ (tCB (rIsi K) (tCons te (tCons (tC (.ty n)) tNil))) (.bl b) :=
  ev_cb (eva_cons h (eva_cons ev_ty eva_nil)) fun F H vs Q r q => by
    obtain ⟨v, u, rfl, r1, r2⟩ := dvs2 r
    cases r2
    exact ⟨v, _, _, _, b, rfl, .ty n, tyD_ok r1 ht, kit_ty hb, q _ (.bl b)⟩
theorem eva_tys : ∀ ns : List String, Eva K δ (ns.foldr (fun n r => tCons (tC (.ty n)) r) tNil) (ns.map D.ty)
  | [] => eva_nil
  | n :: ns => eva_cons ev_ty (eva_tys ns)
theorem dvs_tys {F : Fz} {H : Hp} : ∀ {ns : List String} {vs : List V}, DVs K F H vs (ns.map D.ty) → vs = ns.map V.ty
  | [], _, h => by cases h; rfl
  | n :: ns, _, h => by
    cases h with
    | cons h1 h2 =>
      cases h1
      rw [dvs_tys h2]
      rfl
theorem clsv_tys : ∀ ns : List String, Paired ClsV (ns.map V.ty) (ns.map Value.type)
  | [] => .nil
  | n :: ns => .cons (.ty n) (clsv_tys ns)
theorem ev_isiT {t : String} (ns : List String) (h : Ev K δ te x) (ht : tyD x = some t) (hA : Eva K δ tA (ns.map D.ty)) (hb : kitBs t ns = some b) (hz : ns.length ≤ 100000 := by decide) : Ev K δ (tCB (rIsiT K) (tCons te (tCons (tTup tA) tNil))) (.bl b) := fun F0 H0 σ F H S Q q =>
  h F0 H0 σ F H S _ fun v F1 H1 g1 r1 => hA F0 H0 σ F1 H1 (S.go g1) _ fun vs F2 H2 g2 r2 => by
    have e := dvs_tys r2
    subst e
    refine ⟨by rw [List.length_map]; exact sz5 hz, fun p hp => ⟨v, p, ns.map V.ty, _, _, b, rfl, upd_same, clsv_tys ns, ?_, kitBs_ok hb, q _ F2 _ ((g1.trans g2).upd hp) (.bl b)⟩⟩
    exact tyD_ok (DV.le (g2.le.trans ((Gr.refl g2.dom).upd hp).le) _ _ r1) ht

/-! ### == -/
mutual
def toP : D → PyData
  | .non => .none
  | .bl b => .bool b
  | .int i => .int i
  | .str s => .str s
  | .lst xs => .list (toPs xs)
  | .tup xs => .tuple (toPs xs)
  | .scr ns => .list (ns.map PyData.int)
  | _ => .none
def toPs : List D → List PyData
  | [] => []
  | x :: xs => toP x :: toPs xs
end
mutual
/-- == is told of it: depth n at most -/
def okP : Nat → D → Bool
  | _, .non => true
  | _, .bl _ => true
  | _, .int _ => true
  | _, .str s => PyData.strOk s
  | n + 1, .lst xs => okPs n xs
  | n + 1, .tup xs => okPs n xs
  | _, _ => false
def okPs : Nat → List D → Bool
  | _, [] => true
  | n, x :: xs => okP n x && okPs n xs
end
theorem toPs_map (xs : List D) : toPs xs = xs.map toP := by
  induction xs with
  | nil => rfl
  | cons x xs ih =>
    show toP x :: toPs xs = _
    rw [ih]
    rfl
theorem okPs_all (n : Nat) (xs : List D) : okPs n xs = xs.all (okP n) := by
  induction xs with
  | nil => simp [okPs]
  | cons x xs ih =>
    rw [okPs, ih]
    rfl
mutual
theorem okP_shape : ∀ (d : D) (n : Nat), okP n d = true → (toP d).canLay0 = true ∧ (toP d).depth ≤ n
  | .non, n, _ => ⟨by simp [toP, PyData.canLay0], by simp [toP, PyData.depth]⟩
  | .bl _, n, _ => ⟨by simp [toP, PyData.canLay0], by simp [toP, PyData.depth]⟩
  | .int _, n, _ => ⟨by simp [toP, PyData.canLay0], by simp [toP, PyData.depth]⟩
  | .str s, n, h => ⟨by simpa [toP, PyData.canLay0, okP] using h, by simp [toP, PyData.depth]⟩
  | .lst xs, 0, h => by simp [okP] at h
  | .lst xs, n + 1, h => by
    obtain ⟨a, b⟩ := okPs_shape xs n (by simpa [okP] using h)
    exact ⟨by simpa [toP, PyData.canLay0] using a, by simp [toP, PyData.depth]; omega⟩
  | .tup xs, 0, h => by simp [okP] at h
  | .tup xs, n + 1, h => by
    obtain ⟨a, b⟩ := okPs_shape xs n (by simpa [okP] using h)
    exact ⟨by simpa [toP, PyData.canLay0] using a, by simp [toP, PyData.depth]; omega⟩
  | .obj _ _, n, h => by cases n <;> simp [okP] at h
  | .scr _, n, h => by cases n <;> simp [okP] at h
  | .ref _, n, h => by cases n <;> simp [okP] at h
  | .ty _, n, h => by cases n <;> simp [okP] at h
  | .exn _ _ _ _ _, n, h => by cases n <;> simp [okP] at h
theorem okPs_shape : ∀ (xs : List D) (n : Nat), okPs n xs = true → PyData.canLayAll0 (toPs xs) = true ∧ PyData.depthAll (toPs xs) ≤ n
  | [], n, _ => ⟨by simp [toPs, PyData.canLayAll0], by simp [toPs, PyData.depthAll]⟩
  | x :: xs, n, h => by
    have h' : (okP n x && okPs n xs) = true := by simpa [okPs] using h
    obtain ⟨h1, h2⟩ := Bool.and_eq_true_iff.mp h'
    obtain ⟨a, b⟩ := okP_shape x n h1
    obtain ⟨c, d⟩ := okPs_shape xs n h2
    exact ⟨by simp [toPs, PyData.canLayAll0, a, c], by simp [toPs, PyData.depthAll]; omega⟩
end
mutual
theorem dp_ok {F : Fz} {H : Hp} : ∀ (d : D) (n : Nat) (v : V), okP n d = true → DV K F H v d → Dp K H v (toP d)
  | .non, _, _, _, h => by cases h; simp only [toP]; exact .non
  | .bl _, _, _, _, h => by cases h; simp only [toP]; exact .bl _
  | .int _, _, _, _, h => by cases h; simp only [toP]; exact .int _
  | .str _, _, _, _, h => by cases h; simp only [toP]; exact .str _
  | .lst xs, 0, _, o, _ => by simp [okP] at o
  | .lst xs, n + 1, _, o, h => by
    cases h with
    | lst _ h2 h3 => simp only [toP]; exact .lst (SqL.of h2) (dps_ok xs n _ (by simpa [okP] using o) h3)
  | .tup xs, 0, _, o, _ => by simp [okP] at o
  | .tup xs, n + 1, _, o, h => by
    cases h with
    | tup h1 h2 => simp only [toP]; exact .tup h1 (dps_ok xs n _ (by simpa [okP] using o) h2)
  | .obj _ _, n, _, o, _ => by cases n <;> simp [okP] at o
  | .scr _, n, _, o, _ => by cases n <;> simp [okP] at o
  | .ref _, n, _, o, _ => by cases n <;> simp [okP] at o
  | .ty _, n, _, o, _ => by cases n <;> simp [okP] at o
  | .exn _ _ _ _ _, n, _, o, _ => by cases n <;> simp [okP] at o
theorem dps_ok {F : Fz} {H : Hp} : ∀ (xs : List D) (n : Nat) (vs : List V), okPs n xs = true → DVs K F H vs xs → DpAll K H vs (toPs xs)
  | [], _, _, _, h => by cases h; simp only [toPs]; exact .nil
  | x :: xs, n, _, o, h => by
    have o' : (okP n x && okPs n xs) = true := by simpa [okPs] using o
    obtain ⟨o1, o2⟩ := Bool.and_eq_true_iff.mp o'
    cases h with
    | cons h1 h2 => simp only [toPs]; exact .cons (dp_ok x n _ o1 h1) (dps_ok xs n _ o2 h2)
end
theorem shaped_ok {d : D} {n : Nat} (h : okP n d = true) (hn : n ≤ 64) : SeqAt.shaped (toP d) = true := by
  obtain ⟨a, b⟩ := okP_shape d n h
  unfold SeqAt.shaped
  rw [a, Bool.true_and]
  exact decide_eq_true (by omega)
def eqP (x y : D) : Bool := PyData.eqv (toP x) (toP y)
theorem ev_eqP (n : Nat) (ha : Ev K δ ta x) (hb : Ev K δ tb y) (ox : okP n x = true) (oy : okP n y = true) (he : eqP x y = b) (hn : n ≤ 64 := by decide) : Ev K δ (tOp (rEqD K) ta tb) (.bl b) := ev_op ha hb fun F H v u Q hv hu q =>
  ⟨_, _, dp_ok x n v ox hv, dp_ok y n u oy hu, shaped_ok ox hn, shaped_ok oy hn, by subst he; exact q _ (.bl _)⟩
theorem ev_neP (n : Nat) (ha : Ev K δ ta x) (hb : Ev K δ tb y) (ox : okP n x = true) (oy : okP n y = true) (he : eqP x y = b) (hn : n ≤ 64 := by decide) : Ev K δ (tOp (rNeD K) ta tb) (.bl (!b)) := ev_op ha hb fun F H v u Q hv hu q =>
  ⟨_, _, dp_ok x n v ox hv, dp_ok y n u oy hu, shaped_ok ox hn, shaped_ok oy hn, by subst he; exact q _ (.bl _)⟩
theorem okP_map {α : Type} {n : Nat} {f : α → D} {l : List α} (h : ∀ a ∈ l, okP n (f a) = true) : okP (n + 1) (.lst (l.map f)) = true ∧ okP (n + 1) (.tup (l.map f)) = true := by
  have : okPs n (l.map f) = true := by
    rw [okPs_all, List.all_map, List.all_eq_true]
    exact h
  exact ⟨by simpa [okP] using this, by simpa [okP] using this⟩
theorem eqvAll_map {α β : Type} {f : α → D} {g : β → D} {e : α → β → Bool} (h : ∀ a b, eqP (f a) (g b) = e a b) : ∀ (l : List α) (m : List β), PyData.eqvAll (toPs (l.map f)) (toPs (m.map g)) = (decide (l.length = m.length) && ((l.zip m).all fun p => e p.1 p.2))
  | [], [] => by simp [toPs, PyData.eqvAll]
  | [], _ :: _ => by simp [toPs, PyData.eqvAll]
  | _ :: _, [] => by simp [toPs, PyData.eqvAll]
  | a :: l, b :: m => by
    have ih := eqvAll_map h l m
    have hab := h a b
    unfold eqP at hab
    simp only [List.map_cons, toPs, PyData.eqvAll, hab, ih, List.length_cons, List.zip_cons_cons, List.all_cons]
    by_cases z : l.length = m.length <;> simp [z]
theorem zip_all_eq {α : Type} [DecidableEq α] : ∀ (l m : List α), (decide (l.length = m.length) && ((l.zip m).all fun p => decide (p.1 = p.2))) = decide (l = m)
  | [], [] => by simp
  | [], _ :: _ => by simp
  | _ :: _, [] => by simp
  | a :: l, b :: m => by
    have ih := zip_all_eq l m
    simp only [List.length_cons, List.zip_cons_cons, List.all_cons, List.cons.injEq]
    by_cases z : a = b
    · subst z
      simp only [decide_true, Bool.true_and, true_and]
      rw [← ih]
      simp
    · simp [z]
theorem eqP_lst {α : Type} [DecidableEq α] {f g : α → D} (h : ∀ a b, eqP (f a) (g b) = decide (a = b)) (l m : List α) : eqP (.lst (l.map f)) (.lst (m.map g)) = decide (l = m) := by
  unfold eqP
  simp only [toP, PyData.eqv]
  rw [eqvAll_map h, zip_all_eq]
theorem eqP_tup {α : Type} [DecidableEq α] {f g : α → D} (h : ∀ a b, eqP (f a) (g b) = decide (a = b)) (l m : List α) : eqP (.tup (l.map f)) (.tup (m.map g)) = decide (l = m) := by
  unfold eqP
  simp only [toP, PyData.eqv]
  rw [eqvAll_map h, zip_all_eq]
theorem eqP_int (a b : Int) : eqP (.int a) (.int b) = decide (a = b) := by
  unfold eqP
  simp only [toP, PyData.eqv]
  exact rfl
theorem okP_int (n : Nat) (a : Int) : okP n (.int a) = true := by cases n <;> simp [okP]

/-! ### sorted -/
def sortI (ns : List Int) : List Int := ns.mergeSort (fun a b => decide (a ≤ b))
theorem sortI_perm (ns : List Int) : (sortI ns).Perm ns := List.mergeSort_perm _ _
theorem sortI_sorted (ns : List Int) : (sortI ns).Pairwise (· ≤ ·) := by
  have := List.pairwise_mergeSort (le := fun a b : Int => decide (a ≤ b)) (fun a b c h1 h2 => by simp only [decide_eq_true_eq] at *; omega) (fun a b => by simp only [Bool.or_eq_true, decide_eq_true_eq]; omega) ns
  exact this.imp fun h => by simpa using h
theorem sortI_eq {ms ns : List Int} (h1 : ms.Perm ns) (h2 : ms.Pairwise (· ≤ ·)) : ms = sortI ns :=
  List.Perm.eq_of_pairwise (fun a b _ _ h h' => by omega) h2 (sortI_sorted ns) (h1.trans (sortI_perm ns).symm)
theorem evl_sorted {ns : List Int} (h : Ev K δ te (.lst (ns.map D.int))) : Evl K δ (tCB (rSortedI K) (tCons te tNil)) ((sortI ns).map D.int) := evl_cb (eva_cons h eva_nil) fun F H vs Q r q => by
  obtain ⟨v, rfl, r1⟩ := dvs1 r
  cases r1 with
  | lst h1 h2 h3 =>
    have e := DVs.of_ints h3
    subst e
    exact ⟨_, ns, rfl, SqL.of h2, fun ms p hp hs hn => by
      have e := sortI_eq hp hs
      subst e
      exact q _ (DVs.ints _) p hn⟩
end
end L3
set_option Elab.async false
set_option linter.all false
set_option maxRecDepth 100000
set_option maxHeartbeats 4000000
/-! Names of the module, own exceptions' __init__, small steps. -/
namespace L3
open PySem PySem.Spec PyProof.Rows L2
section
variable {X : Cx} {x : Str} {pos : Pos} {i : Int} {z : Str}
theorem pe_gint (hg : Gl X x) (hm : ∃ t, X.mg x = some (.int i t)) (hd : (x == ("__debug__" : Str)) = false := by decide) : PE X (.Name x pos) (tC (.int i)) := by
  obtain ⟨t, e⟩ := hm
  exact pe_glob hg e ⟨t, rfl⟩ hd
theorem pe_gstr (hg : Gl X x) (hm : ∃ t, X.mg x = some (.str z t)) (hd : (x == ("__debug__" : Str)) = false := by decide) : PE X (.Name x pos) (tC (.str z)) := by
  obtain ⟨t, e⟩ := hm
  exact pe_glob hg e ⟨t, rfl⟩ hd
end
/-! ### own exceptions -/
def IntV (v : V) : Prop := ∃ i : Int, v = .int i ∧ i.natAbs.log2 < 1920
theorem spX_len {C : Addr} {f : Str} {A : V → Prop} {vs : List V} {H : Hp} {Q : VK} {E : XK} (h : spX C f A vs H Q E) : vs.length = 2 := by
  obtain ⟨a, v, rfl, _⟩ := h
  rfl
theorem itx {i : Int} (h : i.natAbs.log2 < 1920) : (Str.ofString (toString i)).length ≤ 1921 := by
  rw [PySem.ofString_length]
  exact PySem.int_text_length_le (k := 1920) (by decide) h
def Msg (A : V → Prop) (t : TE) : Prop := ∀ a v H (Q : VK), A v → (∀ s : Str, Q (.str s) H) → t [some (.ref a), some v] H Q
theorem msg_svs {s1 s2 : Str} (h1 : s1.length ≤ 1000 := by decide) (h2 : s2.length ≤ 1000 := by decide) : Msg IntV (fun σ H Q => tJs [tC (.str s1), tFmt (tVar 1), tC (.str s2)] Str.empty σ H fun out H1 => Q (.str out) H1) := fun a v H Q hv q => by
  obtain ⟨i, rfl, hi⟩ := hv
  have e := itx hi
  have e0 : Str.empty.length = 0 := rfl
  have sl : ∀ {n : Nat}, n ≤ 100000 → n ≤ sizeLine := sz5
  refine ⟨s1, rfl, sl (by rw [PySem.Str.length_append]; omega), _, rfl, .inr ⟨i, rfl, hi, Str.ofString (toString i), rfl, sl (by rw [PySem.Str.length_append, PySem.Str.length_append]; omega), s2, rfl, sl (by rw [PySem.Str.length_append, PySem.Str.length_append, PySem.Str.length_append]; omega), q _⟩⟩
theorem msg_sv {s1 : Str} (h1 : s1.length ≤ 1000 := by decide) : Msg IntV (fun σ H Q => tJs [tC (.str s1), tFmt (tVar 1)] Str.empty σ H fun out H1 => Q (.str out) H1) := fun a v H Q hv q => by
  obtain ⟨i, rfl, hi⟩ := hv
  have e := itx hi
  have e0 : Str.empty.length = 0 := rfl
  have sl : ∀ {n : Nat}, n ≤ 100000 → n ≤ sizeLine := sz5
  refine ⟨s1, rfl, sl (by rw [PySem.Str.length_append]; omega), _, rfl, .inr ⟨i, rfl, hi, Str.ofString (toString i), rfl, sl (by rw [PySem.Str.length_append, PySem.Str.length_append]; omega), q _⟩⟩
theorem msg_vs {s2 : Str} (h1 : s2.length ≤ 1000 := by decide) : Msg IntV (fun σ H Q => tJs [tFmt (tVar 1), tC (.str s2)] Str.empty σ H fun out H1 => Q (.str out) H1) := fun a v H Q hv q => by
  obtain ⟨i, rfl, hi⟩ := hv
  have e := itx hi
  have e0 : Str.empty.length = 0 := rfl
  have sl : ∀ {n : Nat}, n ≤ 100000 → n ≤ sizeLine := sz5
  refine ⟨_, rfl, .inr ⟨i, rfl, hi, Str.ofString (toString i), rfl, sl (by rw [PySem.Str.length_append]; omega), s2, rfl, sl (by rw [PySem.Str.length_append, PySem.Str.length_append]; omega), q _⟩⟩
theorem msg_str {s1 : Str} : Msg (fun _ => True) (tC (.str s1)) := fun a v H Q hv q => q _
/-- super().__init__(message); self.f = x -/
theorem exc_init {K : PySem.W.Frag} {C : Addr} {f : Str} {A : V → Prop} {tF : TE} {vs : List V} {H : Hp} {Q : VK} {E : XK} {x0 x1 : Str} (T : OexC K C) (hf : PySem.W.findIn K (.ref C) f = some none) (hm : Msg A tF) (h : spX C f A vs H Q E) :
    (tSeq (tDrop (Sy.tSupX C 0 (tCons tF tNil))) (tOst K f (tVar 0) (tVar 1))) { nx := fun _ H' => Q .non H', rt := Q } (L2.start [x0, x1] vs) H := by
  obtain ⟨a, v, rfl, hA, ha, hq⟩ := h
  refine ⟨a, rfl, ha, hm a v H _ hA fun s => ?_⟩
  show [V.str s].length ≤ 1000 ∧ _
  refine ⟨by show 1 ≤ 1000; omega, ha, ?_⟩
  exact ⟨_, rfl, _, rfl, a, C, rfl, T, hf, .inl ⟨ha, fun dx hd hne => hq dx hd hne⟩⟩
/-! ### x, y = a, b -/
section
variable {K : PySem.W.Frag} {B : Bs} {δ : Env3} {ta tb : TE} {x y : D} {D' : De} {i j : Nat}
theorem s_par (ha : Ev K δ ta x) (hb : Ev K δ tb y) (k : D'.nx ((δ.set i (.d x)).set j (.d y))) : SD K B (tPar i j (tCons ta (tCons tb tNil))) δ D' := fun σ F H Dn S L =>
  (eva_cons ha (eva_cons hb eva_nil)) _ _ σ F H S _ fun vs F1 H1 g1 r1 => by
    obtain ⟨v, w, rfl, r2, r3⟩ := dvs2 r1
    exact ⟨v, w, rfl, L.nx _ _ F1 H1 k (((S.go g1).setd i r2).setd j r3) g1.le⟩
end
end L3
namespace L3
open PySem PySem.Spec PyProof.Rows L2
section
variable {K : PySem.W.Frag} {δ : Env3} {ta tb tc te : TE} {x y d : D} {i j : Int}
theorem ev_oi {g : Int → Int → Int} (ha : Ev K δ ta (.int i)) (hb : Ev K δ tb (.int j)) : Ev K δ (tOp (rI0 fun i j => .int (g i j)) ta tb) (.int (g i j)) := ev_I0 ha hb
theorem ev_ob {g : Int → Int → Bool} (ha : Ev K δ ta (.int i)) (hb : Ev K δ tb (.int j)) : Ev K δ (tOp (rI0 fun i j => .bl (g i j)) ta tb) (.bl (g i j)) := ev_I0 ha hb
theorem ev_ci {C : Int → Int → Prop} {g : Int → Int → Int} (ha : Ev K δ ta (.int i)) (hb : Ev K δ tb (.int j)) (hc : C i j) : Ev K δ (tOp (rI C fun i j => .int (g i j)) ta tb) (.int (g i j)) := ev_I ha hb hc
theorem ev_eqi (ha : Ev K δ ta (.int i)) (hb : Ev K δ tb (.int j)) : Ev K δ (tOp rEq ta tb) (.bl (decide (i = j))) := (ev_eqS (b := i == j) ha hb rfl).to (by congr 1)
theorem ev_nei (ha : Ev K δ ta (.int i)) (hb : Ev K δ tb (.int j)) : Ev K δ (tOp rNe ta tb) (.bl (!decide (i = j))) := (ev_neS (b := i == j) ha hb rfl).to (by congr 2)
end
end L3
namespace L3
open PySem PySem.Spec PyProof.Rows L2
theorem ixN_ok {n : Nat} {k : Int} (h0 : 0 ≤ k) (h1 : k < n) : ixN n k = some k.toNat := by
  unfold ixN
  rw [if_pos h0, if_pos h1]
theorem atI_getD {α : Type} {l : List α} {k : Int} (z : α) (h0 : 0 ≤ k) (h1 : k < l.length) : atI l k = some (l.getD k.toNat z) := by
  unfold atI
  rw [ixN_ok h0 h1]
  show l[k.toNat]? = _
  have : k.toNat < l.length := by omega
  rw [List.getD_eq_getElem?_getD, List.getElem?_eq_getElem this]
  rfl
theorem atI_mapD {α β : Type} {l : List α} {k : Int} (f : α → β) (z : α) (h0 : 0 ≤ k) (h1 : k < l.length) : atI (l.map f) k = some (f (l.getD k.toNat z)) := by
  rw [atI_map, atI_getD z h0 h1]
  rfl
end L3
namespace L3
open PySem PySem.Spec PyProof.Rows L2
theorem passN {X : Cx} : Passes (L2.CX X.prog X.w) X (fun _ _ _ => False) := fun _ _ _ _ _ _ _ h => by
  obtain ⟨_, _, _, _, _, _, _, _, _, _, _, _, z⟩ := h
  exact z.elim
end L3
set_option Elab.async false
set_option linter.all false
set_option maxRecDepth 100000
set_option maxHeartbeats 4000000
/-! sum of a tuple; xs[i] as a value. -/
namespace L3
open PySem PySem.Spec PyProof.Rows L2
def rSumT (K : PySem.W.Frag) : List V → Hp → VK → Prop := fun vs H Q => ∃ (a : Addr) (ns : List Int), vs = [V.ref a] ∧ SqT K H a (ns.map V.int) ∧ Q (.int ns.sum) H
section
variable {X : Cx}
theorem cr_sumT (hc : X.calm = true) : CallR X (.builtin "sum") (rSumT X.K) := by
  intro pins s σ H vs us Q I r h
  obtain ⟨a, ns, rfl, hs, q⟩ := h
  obtain ⟨its, rv, ht, _⟩ := I.tuple hs
  rw [Vals.ref1 r]
  have hi : IntsAre its ns := rv.ints
  obtain ⟨xs, e⟩ := hi.allInts.items
  have hn : numsOf (intItems xs).toList = ns := by rw [← e]; exact hi.numsOf
  rw [nums_intItems] at hn
  have e' : its.toArray = intItems xs := by
    rw [← e]
  rw [e'] at ht
  have hlt : a < s.heap.objs.size := by
    obtain ⟨_, ea, _⟩ := ht
    exact Heap.lt_size ea
  refine call_sum_walkG (iter_tuple ht ?_)
  refine ⟨_, _, _, _, _, _, numAt xs, rfl, Walks.tuple (A := X.A.in1) (I.ok.hd hc) _ a (Nat.ne_of_lt hlt) (intItems xs), ⟨⟨_, Heap.get?_push_size _ rfl, rfl, rfl⟩, ht.push _⟩, fun b hb => ?_, (fun _ _ => intItems_at), fun h' tk t' hk => ?_⟩
  · show b < (s.heap.push _).objs.size
    rw [Heap.size_push]
    rcases List.mem_cons.mp hb with rfl | hb
    · exact Nat.lt_succ_self _
    · rcases List.mem_cons.mp hb with rfl | hb
      · exact Nat.lt_succ_of_lt hlt
      · cases hb
  · have hk' : ∀ b o, s.heap.get? b = some o → h'.get? b = some o := fun b o eb => by
      refine hk b o (fun hm => ?_) (Heap.get?_push_of_some _ eb)
      rcases List.mem_cons.mp hm with e1 | hm
      · exact absurd (e1 ▸ Heap.lt_size eb) (Nat.lt_irrefl _)
      · cases hm
    have e2 : preSum (numAt xs) (intItems xs).size = ns.sum := by
      rw [preSum_eq, List.take_of_length_le (by simp [intItems]), hn]
    refine ⟨.int ns.sum, H, I.kept hk', ⟨t', ?_⟩, q⟩
    rw [e2]
end
section
variable {K : PySem.W.Frag} {δ : Env3} {te : TE}
theorem ev_sumT {ns : List Int} (h : Ev K δ te (.tup (ns.map D.int))) : Ev K δ (tCB (rSumT K) (tCons te tNil)) (.int ns.sum) := ev_cb (eva_cons h eva_nil) fun F H vs Q r q => by
  obtain ⟨v, rfl, r1⟩ := dvs1 r
  cases r1 with
  | tup h1 h2 =>
    have e := DVs.of_ints h2
    subst e
    exact ⟨_, ns, rfl, h1, q _ (.int _)⟩
end
end L3
namespace L3
open PySem PySem.Spec PyProof.Rows L2
section
variable {K : PySem.W.Frag} {B : Bs} {δ : Env3} {t u : TS} {D' : De}
theorem SD.imp {D2 : De} (h : SD K B t δ D') (hn : ∀ δ2, D'.nx δ2 → D2.nx δ2) (hr : ∀ r, D'.rt r → D2.rt r) (hb : ∀ δ2, D'.bk δ2 → D2.bk δ2) (hc : ∀ δ2, D'.ct δ2 → D2.ct δ2) : SD K B t δ D2 := fun σ F H Dn S L =>
  h σ F H Dn S ⟨L.ba, fun δ2 σ2 F2 H2 p => L.nx δ2 σ2 F2 H2 (hn _ p), fun δ2 σ2 F2 H2 p => L.bk δ2 σ2 F2 H2 (hb _ p), fun δ2 σ2 F2 H2 p => L.ct δ2 σ2 F2 H2 (hc _ p), fun x v F2 H2 p => L.rd x v F2 H2 (hr _ p), fun xs a vs F2 H2 p => L.rl xs a vs F2 H2 (hr _ p)⟩
/-- the ways meet again: J is said of the slots between -/
theorem q_mid (J : Env3 → Prop) (h : SD K B t δ { D' with nx := J }) (k : ∀ δ2, J δ2 → SD K B u δ2 D') : SD K B (tSeq t u) δ D' := q_seq (h.imp k (fun _ p => p) (fun _ p => p) (fun _ p => p))
end
end L3
namespace L3
open PySem PySem.Spec PyProof.Rows L2
section
variable {K : PySem.W.Frag} {B : Bs} {δ : Env3} {t u : TS} {D' : De} {wi : TI} {g : TG} {tt : TT} {te tl : TE} {own js : List Nat} {n : Nat} {item : Nat → D} {α : Type}
theorem filt_true (n : Nat) : (List.range n).filter (fun _ => true) = List.range n := List.filter_eq_self.mpr fun _ _ => rfl
theorem evl_lc1 (e : Nat → D) (hs : Src K δ wi n item) (hn : n ≤ 100000) (hj : ∀ j ∈ js, j ∈ own) (hb : ∀ i, i < n → GD K js g (item i) (wipeD δ own) fun δ2 => Evt K δ2 tt true ∧ Ev K δ2 te (e i)) : Evl K δ (tLc wi g tt te own) ((List.range n).map e) := by
  have := evl_lc (tt := tt) (te := te) (fun _ => true) e hs hn hj (fun i hi => by
    intro F0 H0 σ F H v S r Q q
    exact hb i hi F0 H0 σ F H v S r Q fun δ2 σ2 p S2 w2 => q δ2 σ2 ⟨p.1, fun _ => p.2⟩ S2 w2)
  rw [filt_true] at this
  exact this
theorem evll_lc1 (e : Nat → List D) (hs : Src K δ wi n item) (hn : n ≤ 100000) (hj : ∀ j ∈ js, j ∈ own) (hb : ∀ i, i < n → GD K js g (item i) (wipeD δ own) fun δ2 => Evt K δ2 tt true ∧ Evl K δ2 te (e i)) : Evll K δ (tLc wi g tt te own) ((List.range n).map e) := by
  have := evll_lc (tt := tt) (te := te) (fun _ => true) e hs hn hj (fun i hi => by
    intro F0 H0 σ F H v S r Q q
    exact hb i hi F0 H0 σ F H v S r Q fun δ2 σ2 p S2 w2 => q δ2 σ2 ⟨p.1, fun _ => p.2⟩ S2 w2)
  rw [filt_true] at this
  exact this
theorem getD_enc {l : List α} {i : Nat} (enc : α → D) (h : i < l.length) : (l.map enc).getD i .non = enc l[i] := by
  rw [List.getD_eq_getElem?_getD, List.getElem?_map, List.getElem?_eq_getElem h]
  rfl
theorem range_getElem {β : Type} (l : List α) (f : α → β) (z : β) : ((List.range l.length).map fun i => match l[i]? with | some a => f a | none => z) = l.map f := by
  apply List.ext_getElem
  · simp
  · intro i h1 h2
    simp at h1
    simp [h1]
theorem evl_mapA {l : List α} (enc f : α → D) (hs : Src K δ wi (l.map enc).length fun i => (l.map enc).getD i .non) (hn : l.length ≤ 100000) (hj : ∀ j ∈ js, j ∈ own) (hb : ∀ a ∈ l, GD K js g (enc a) (wipeD δ own) fun δ2 => Evt K δ2 tt true ∧ Ev K δ2 te (f a)) : Evl K δ (tLc wi g tt te own) (l.map f) := by
  have := evl_lc1 (tt := tt) (te := te) (g := g) (fun i => match l[i]? with | some a => f a | none => .non) hs (by rw [List.length_map]; exact hn) hj (fun i hi => by
    rw [List.length_map] at hi
    rw [getD_enc enc hi]
    have e : l[i]? = some l[i] := List.getElem?_eq_getElem hi
    simp only [e]
    exact hb l[i] (List.getElem_mem hi))
  rw [List.length_map, range_getElem] at this
  exact this
theorem evll_mapA {l : List α} (enc : α → D) (f : α → List D) (hs : Src K δ wi (l.map enc).length fun i => (l.map enc).getD i .non) (hn : l.length ≤ 100000) (hj : ∀ j ∈ js, j ∈ own) (hb : ∀ a ∈ l, GD K js g (enc a) (wipeD δ own) fun δ2 => Evt K δ2 tt true ∧ Evl K δ2 te (f a)) : Evll K δ (tLc wi g tt te own) (l.map f) := by
  have := evll_lc1 (tt := tt) (te := te) (g := g) (fun i => match l[i]? with | some a => f a | none => []) hs (by rw [List.length_map]; exact hn) hj (fun i hi => by
    rw [List.length_map] at hi
    rw [getD_enc enc hi]
    have e : l[i]? = some l[i] := List.getElem?_eq_getElem hi
    simp only [e]
    exact hb l[i] (List.getElem_mem hi))
  rw [List.length_map, range_getElem] at this
  exact this
/-- for x in xs, xs encoded items -/
theorem s_forA {l : List α} (enc : α → D) (hs : Src K δ wi (l.map enc).length fun i => (l.map enc).getD i .non) (W : Nat → Env3 → Prop) (h0 : W 0 δ)
    (hb : ∀ i a δ2, l[i]? = some a → W i δ2 → GD K js g (enc a) δ2 fun δ3 => SD K B t δ3 { D' with nx := W (i + 1), ct := W (i + 1), bk := D'.nx }) (hd : ∀ δ2, W l.length δ2 → D'.nx δ2) : SD K B (tFor wi g t) δ D' :=
  s_for hs W h0 (fun i δ2 hi hw => by
    rw [List.length_map] at hi
    rw [getD_enc enc hi]
    exact hb i l[i] δ2 (List.getElem?_eq_getElem hi) hw) (fun δ2 hw => hd δ2 (by rw [List.length_map] at hw; exact hw))
end
end L3
set_option Elab.async false
set_option linter.all false
set_option maxRecDepth 100000
set_option maxHeartbeats 4000000
/-! The rules of the hand layer with the written part named. -/
namespace L3
open PySem PySem.Spec PyProof.Rows L2
section
variable {X : Cx} {K : PySem.W.Frag} (h : X.K = K)
include h
theorem ix_listK : IxR X (rIxL K) := by subst h; exact ix_list
theorem ix_tupK : IxR X (rIxT K) := by subst h; exact ix_tup
theorem sl_listK : L2.SlR X (rSlL K) := by subst h; exact sl_list
theorem sl_tupK : L2.SlR X (rSlT K) := by subst h; exact sl_tup
theorem call_len_seqK : CallR X (.builtin "len") (rLenS K) := by subst h; exact call_len_seq
theorem cr_sumK (hc : X.calm = true) : CallR X (.builtin "sum") (rSum K) := by subst h; exact cr_sum hc
theorem cr_sumTK (hc : X.calm = true) : CallR X (.builtin "sum") (rSumT K) := by subst h; exact cr_sumT hc
theorem cr_maxK (hc : X.calm = true) : CallR X (.builtin "max") (rMax K) := by subst h; exact cr_max hc
theorem cr_minKK (hc : X.calm = true) : CallR X (.builtin "min") (rMin K) := by subst h; exact cr_min hc
theorem cr_anyK (hc : X.calm = true) : CallR X (.builtin "any") (rAny K) := by subst h; exact cr_any hc
theorem cr_allK (hc : X.calm = true) : CallR X (.builtin "all") (rAll K) := by subst h; exact cr_all hc
theorem cr_sortedIK : CallR X (.builtin "sorted") (rSortedI K) := by subst h; exact cr_sortedI
theorem call_list_ofK : CallR X (.type "list") (rLof K) := by subst h; exact call_list_of
theorem call_tuple_ofK : CallR X (.type "tuple") (rTof K) := by subst h; exact call_tuple_of
theorem call_isiKK : CallR X (.builtin "isinstance") (rIsi K) := by subst h; exact call_isi
theorem call_isiTK : CallR X (.builtin "isinstance") (rIsiT K) := by subst h; exact call_isiT
theorem op_in_seqK : OpR X (compareOp .In) (rIn K false) := by subst h; exact op_in_seq
theorem op_notIn_seqK : OpR X (compareOp .NotIn) (rIn K true) := by subst h; exact op_notIn_seq
theorem op_eqDK (hu : X.A.units + 64 < cLine) : OpR X (compareOp .Eq) (rEqD K) := by subst h; exact op_eqD hu
theorem op_neDK (hu : X.A.units + 64 < cLine) : OpR X (compareOp .NotEq) (rNeD K) := by subst h; exact op_neD hu
theorem op_inDK (hu : X.A.units + 65 < cLine) : OpR X (compareOp .In) (rInD K) := by subst h; exact op_inD hu
theorem op_notInDK (hu : X.A.units + 65 < cLine) : OpR X (compareOp .NotIn) (rNotInD K) := by subst h; exact op_notInD hu
variable {e l a : Expr} {te tl ta : TE} {f : Str} {pos : Pos} {tg : Expr}
theorem pe_fldK (he : PE X e te) (hb : attributeBase e f X.env (eval e X.env) = eval e X.env) : PE X (.Attribute e f pos) (tFld K te f) := by subst h; exact pe_fld he hb
theorem ps_fldK {o value : Expr} {to tv : TE} {pos' : Pos} (ha : PE X o to) (hv : PE X value tv) (hs : swapsWith value (some (.Attribute o f pos')) pos.line X.env = pure false) : PS X (.Assign [.Attribute o f pos'] value pos) (sFld K to tv f) := by subst h; exact ps_fld ha hv hs
theorem pi_listK (hl : PE X l tl) : PI X tg l (iList K tl) := by subst h; exact pi_list hl
theorem pi_tupK (hl : PE X l tl) : PI X tg l (iTup K tl) := by subst h; exact pi_tup hl
theorem pi_enumK {tA : TA} {p tpos : Pos} {elts : List Expr} {kk : Nat} (hg : Gl X "enumerate") (hm : X.mg "enumerate" = none) (ha : PA X [e] tA) (hs : starEach [e] X.env = [(false, eval e X.env)] := by rfl) :
    PI X (.Tuple elts kk tpos) (.Call (.Name "enumerate" p) [e] [] pos) (iEnum K tA) := by subst h; exact pi_enum hg hm ha hs
theorem pi_zipK {e2 : Expr} {tA : TA} {p tpos : Pos} {elts : List Expr} {kk : Nat} (hg : Gl X "zip") (hm : X.mg "zip" = none) (ha : PA X [e, e2] tA)
    (hs : starEach [e, e2] X.env = (false, eval e X.env) :: starEach [e2] X.env := by rfl) (hpl : (backTo pos (starEach [e2] X.env)).any (·.1) = false := by rfl) :
    PI X (.Tuple elts kk tpos) (.Call (.Name "zip" p) [e, e2] [] pos) (iZip K tA) := by subst h; exact pi_zip hg hm ha hs hpl
theorem pg_tupK {es : List Expr} {k : Nat} {t : TGs} {n : Nat} (hc : X.calm = true) (hp : PGs X es t)
    (hn : (assignEach es X.env).length = n := by rfl) (hst : (assignEach es X.env).findIdx? (·.1) = none := by rfl) : PG X (.Tuple es k pos) (gTup K n t) := by subst h; exact pg_tup hc hp hn hst
theorem pt_truthK (ha : PE X a ta) (he : ∀ whole, isTrue a X.env whole = (do let v ← whole; standAt a.pos; holding [v] (truthy v))) :
    PT X a (fun σ H Q => ta σ H fun x H' => ∃ k, TruV K x H' k ∧ Q k H') := by subst h; exact pt_truth ha he
theorem pe_appK {o : Expr} {to : TE} {es : List Expr} {tA : TA} {apos cpos : Pos} (ho : PE X o to) (ha : PA X (e :: es) tA)
    (hbase : attributeBase o "append" X.env (eval o X.env) = eval o X.env := by rfl)
    (hfew : ((backTo cpos (starEach (e :: es) X.env)).all (fun x => !x.1) && (backToKw cpos (keywordEach [] X.env)).all (fun x => x.1.isSome)
      && decide ((e :: es).length + ([] : List Keyword).length + (if ([] : List Keyword).isEmpty then 0 else 1) < 30)) = true := by rfl)
    (hline : (apos.endLine == cpos.line) = true := by rfl) (hs : starEach (e :: es) X.env = (false, eval e X.env) :: starEach es X.env := by rfl) (hplain : (backTo cpos (starEach es X.env)).any (·.1) = false := by rfl) :
    PE X (.Call (.Attribute o "append" apos) (e :: es) [] cpos) (tBM K "list" rAppend to tA) := by subst h; exact pe_bm PySem.F.plainAttrs_list PySem.F.slot_list_append PySem.F.type_list_append mt_append ho ha hbase hfew hline hs hplain
end
end L3
set_option Elab.async false
set_option linter.all false
set_option maxRecDepth 100000
set_option maxHeartbeats 4000000
/-! Facts of the written part: defs that say super(), own exceptions. -/
namespace Sy
open PySem PySem.W PySem.Calls PySem.Spec PyProof.Rows L2 ClX He

/-! ### a def that says super() -/
abbrev FnS : Type := Option (PySem.Str × PySem.Str × Arguments × FuncBody × Scope × Addr × List PySem.Str × Addr)
def fnS (K : Frag) (p : PySem.Str × Option PySem.Str) : FnS := match K.lookup (fAd K p) with
  | some ⟨_, _, .func fd, _⟩ => some (fd.name, fd.qualname, fd.params, fd.body, fd.scope, fd.globals, fd.closure.map (·.1), fd.builtins)
  | _ => none
structure SupD where
  at_ : PySem.Str × Option PySem.Str
  name : PySem.Str
  qual : PySem.Str
  params : Arguments
  body : List Stmt
  scope : Scope
def SupD.val (d : SupD) : FnS := some (d.name, d.qual, d.params, .stmts d.body, d.scope, mainGlobals, ["__class__"], builtinsNs)
def fileB (K : Frag) (file : PySem.Str) (cd : Value) : Bool := match cd with
  | .ref c => (match K.lookup c with
    | some ⟨_, _, .fields vs, _⟩ => (match (vs[2]? : Option Value) with
      | some (.str f _) => file == f
      | _ => false)
    | _ => false)
  | _ => false
theorem fileB_ok {K : Frag} {file : PySem.Str} {cd : Value} (h : fileB K file cd = true) : ∃ (cda : Addr) (ccl : Value) (cdd : Option Addr) (vs : Array Value) (ccs : Array (Option Value)) (f : PySem.Str) (tf : Tok), cd = .ref cda ∧ K.lookup cda = some ⟨ccl, cdd, .fields vs, ccs⟩ ∧ vs[2]? = some (.str f tf) ∧ (file == f) = true := by
  unfold fileB at h
  split at h
  · split at h
    · rename_i hl
      split at h
      · rename_i hv
        exact ⟨_, _, _, _, _, _, _, rfl, hl, hv, h⟩
      · cases h
    · cases h
  · cases h
def cellB (K : Frag) (D : Addr) (cl : List (PySem.Str × Addr)) : Bool := match cl with
  | [(_, cc)] => (match K.lookup cc with
    | some ⟨_, _, .cell (some (.ref D')), _⟩ => D' == D
    | _ => false)
  | _ => false
theorem cellB_ok {K : Frag} {D : Addr} {cl : List (PySem.Str × Addr)} (h : cellB K D cl = true) : ∃ (n : PySem.Str) (cc : Addr) (c : Value) (cld : Option Addr) (csl : Array (Option Value)), cl = [(n, cc)] ∧ K.lookup cc = some ⟨c, cld, .cell (some (.ref D)), csl⟩ := by
  unfold cellB at h
  split at h
  · split at h
    · rename_i hl
      have e := beq_iff_eq.mp h
      subst e
      exact ⟨_, _, _, _, _, rfl, hl⟩
    · cases h
  · cases h
def SupD.ok (K : Frag) (file : PySem.Str) (d : SupD) : Bool := match K.lookup (fAd K d.at_) with
  | some ⟨_, _, .func fd, _⟩ => codeIn K fd.code d.qual && (fileB K file fd.code && (cellB K (ga K d.at_.1) fd.closure && ((clsIn K (ga K d.at_.1)).isSome && (dflB K fd.defaults [] && kwdB K fd.kwdefaults []))))
  | _ => false
/-- a def of the class at D that says super() -/
structure SupDef (K : Frag) (file x qual : PySem.Str) (params : Arguments) (body : List Stmt) (scope : Scope) (D f : Addr) (fd : FuncData) : Prop where
  ex : ∃ (cc : Addr) (oc : Value) (od : Option Addr) (osl : Array (Option Value)) (dV kV doc pm cdv ct : Value) (an : Option Addr) (c : Value) (cld : Option Addr) (csl : Array (Option Value)) (cdD : ClassData),
    fd = ksFn x qual params body scope dV kV doc pm an cdv ct cc ∧ K.lookup f = some ⟨oc, od, .func fd, osl⟩ ∧ K.lookup cc = some ⟨c, cld, .cell (some (.ref D)), csl⟩ ∧ codeIn K cdv qual = true ∧ fileB K file cdv = true ∧ clsIn K D = some cdD ∧ DflV K dV [] ∧ KwdV K kV []
theorem SupD.def_ {K : Frag} {file : PySem.Str} {d : SupD} (e : fnS K d.at_ = d.val) (c : d.ok K file = true) : ∃ fd, SupDef K file d.name d.qual d.params d.body d.scope (ga K d.at_.1) (fAd K d.at_) fd := by
  unfold fnS at e
  unfold SupD.ok at c
  cases q : K.lookup (fAd K d.at_) with
  | none =>
    rw [q] at c
    cases c
  | some o =>
    obtain ⟨oc, od, dt, osl⟩ := o
    rw [q] at c e
    cases dt with
    | func fd =>
      obtain ⟨n1, n2, n3, n4, n5, n6, n7, n8, n9, n10, n11, n12, n13, n14, n15⟩ := fd
      have e2 : (some (n1, n2, n3, n4, n5, n6, n7.map (·.1), n15) : FnS) = (some (d.name, d.qual, d.params, FuncBody.stmts d.body, d.scope, mainGlobals, [("__class__" : PySem.Str)], builtinsNs) : FnS) := e
      simp only [Option.some.injEq, Prod.mk.injEq] at e2
      obtain ⟨h1, h2, h3, h4, h5, h6, h7, h8⟩ := e2
      have c3 : (codeIn K n13 d.qual && (fileB K file n13 && (cellB K (ga K d.at_.1) n7 && ((clsIn K (ga K d.at_.1)).isSome && (dflB K n8 [] && kwdB K n9 []))))) = true := c
      obtain ⟨k1, k2⟩ := ba c3
      obtain ⟨k3, k4⟩ := ba k2
      obtain ⟨k5, k6⟩ := ba k4
      obtain ⟨k7, k8⟩ := ba k6
      obtain ⟨k9, k10⟩ := ba k8
      obtain ⟨n, cc, cv, cld, csl, rfl, hcc⟩ := cellB_ok k5
      obtain ⟨cdD, hD⟩ := Option.isSome_iff_exists.mp k7
      have h7' : [n] = [("__class__" : PySem.Str)] := h7
      have h7'' : n = ("__class__" : PySem.Str) := by simpa using h7'
      subst h1 h2 h3 h4 h5 h6 h8 h7''
      exact ⟨_, ⟨cc, oc, od, osl, n8, n9, n10, n11, n13, n14, n12, cv, cld, csl, cdD, rfl, q, hcc, k1, k3, hD, dflB_ok k9, kwdB_ok k10⟩⟩
    | _ => cases c
section
variable {K : Frag} {file x qual : PySem.Str} {params : Arguments} {body : List Stmt} {scope : Scope} {D f : Addr} {fd : FuncData} {ps N : List PySem.Str}
theorem SupDef.bindsN (F : SupDef K file x qual params body scope D f fd)
    (h : ∀ (kV doc pm : Value) (an : Option Addr) (cdv ct : Value) (cc : Addr) (us : List Value), us.length = ps.length → bindArgs (ksFn x qual params body scope .none kV doc pm an cdv ct cc) ⟨us, []⟩ = pure (ps.zip us)) : Binds K fd ps [] := by
  obtain ⟨cc, oc, od, osl, dV, kV, doc, pm, cdv, ct, an, c, cld, csl, cdD, rfl, _, _, _, _, _, hD, _⟩ := F.ex
  rcases hD with ⟨_, rfl⟩ | ⟨e, _⟩
  · exact .all (h kV doc pm an cdv ct cc)
  · exact absurd rfl e
/-- THE RULE for such a def -/
theorem SupDef.run {CX : CXT} {P : Program} {w : World} {mg : PySem.Str → Option Value} {base : Heap} {k : Nat} {sp : Sp} {ar : Arg} {nm : PySem.Str} (F : SupDef K file x qual params body scope D f fd) (S : FnScopeS N ps scope)
    (hks : scope.names.lookup ("super" : PySem.Str) = some .globalImplicit) (hkc : scope.names.lookup ("__class__" : PySem.Str) = some .free) (hp : (params.posonlyargs ++ params.args).head? = some ar) (har : ar.arg = nm) (hfile : P.main.file = file)
    (hfree : mg "super" = none) (htop : (P.main.scope.names.lookup ("super" : PySem.Str)).isSome = false) (hopq : nsIn K cStatics "thirdparty.any" = some none)
    (len : ∀ vs H Q E, sp vs H Q E → vs.length = ps.length)
    (hbody : ∀ (cc : Addr) (cdv : Value) (A : Around) (outer : List Env) (s : Shared) (H : Hp) (vs : List V) (Q : VK) (E : XK), SupF (cxS CX P w K mg base N qual scope f cdv cc A outer s H E) D nm → Room k (A.deeper (ksEnv qual scope s.heap.objs.size f cdv cc)) → sp vs H Q E →
      ∃ t, PSsA (cxS CX P w K mg base N qual scope f cdv cc A outer s H E) body body t ∧ t { nx := fun _ H' => Q .non H', rt := Q } (start N vs) H) : FnOk P w K mg base CX (k + 1) f fd ps sp := by
  obtain ⟨cc, oc, od, osl, dV, kV, doc, pm, cdv, ct, an, c, cld, csl, cdD, rfl, lk, hcc, hcd, hf, hD, _, _⟩ := F.ex
  refine fn_ofS lk hcc rfl hcd S len fun A outer s H vs Q E hr hsp => hbody cc cdv A outer s H vs Q E ?_ hr hsp
  obtain ⟨cda, ccl, cdd, vs', ccs, fl, tf, e1, e2, e3, e4⟩ := fileB_ok hf
  exact ⟨hks, hkc, ⟨f, oc, od, _, osl, ar, rfl, lk, hp, har⟩, ⟨cda, ccl, cdd, vs', ccs, fl, tf, e1, e2, e3, by rw [show (cxS CX P w K mg base N qual scope f cdv cc A outer s H E).prog.main.file = file from hfile]; exact e4⟩,
    ⟨cc, c, cld, csl, cdD, by rfl, hcc, hD⟩, hfree, htop, hopq⟩
end

/-! ### further facts -/
inductive Fx where
  | oex (x : PySem.Str)
  | mro (x y : PySem.Str)
  | sup (x y m z : PySem.Str)
  | supx (x : PySem.Str)
  | xf (x n : PySem.Str)
  | init (x : PySem.Str)
  | opq
  | blt (x : PySem.Str) (id : String)
  | ins (x : PySem.Str)
  | xno (x n : PySem.Str)
def oexB (K : Frag) (C : Addr) : Bool := (match K.lookup C with
  | some ⟨.type "type", _, .cls cd, sl⟩ => (match cd.mro, sl.toList with
    | .ref C' :: bm, [_, _, _, _, some (.builtin n), _] => C' == C && (n == "ValueError.__new__" && (!cd.hasDel && (cd.hasDict && HandSPX.refsVE bm)))
    | _, _ => false)
  | _ => false) && (eqO (findIn K (.ref C) "__setattr__") (some (some (.builtin "object.__setattr__"))) && (decide (subIn K (.ref C) (.type "BaseException") = some true) && (decide (typeIn K (.ref C) = some (.type "type")) && keepIn K (.ref C))))
theorem oexB_ok {K : Frag} {C : Addr} (h : oexB K C = true) : OexC K C := by
  obtain ⟨q, h⟩ := ba h
  obtain ⟨h1, h⟩ := ba h
  obtain ⟨h2, h⟩ := ba h
  obtain ⟨h3, h4⟩ := ba h
  refine ⟨?_, eqO_ok h1, of_decide_eq_true h2, of_decide_eq_true h3, h4⟩
  split at q
  · rename_i dd cd sl ho
    split at q
    · rename_i C' bm k0 k1 k2 k3 n k5 hm hs
      obtain ⟨q1, q⟩ := ba q
      obtain ⟨q2, q⟩ := ba q
      obtain ⟨q3, q⟩ := ba q
      obtain ⟨q4, q5⟩ := ba q
      have e1 := beq_iff_eq.mp q1
      have e2 := beq_iff_eq.mp q2
      have e3 : cd.hasDel = false := by simpa using q3
      obtain ⟨nm, bs, mro, ns, qn, hd, sn, sub, ab, col, del⟩ := cd
      dsimp only at hm e3 q4
      subst hm e3 q4 e1 e2
      have hsl : sl = #[k0, k1, k2, k3, some (.builtin "ValueError.__new__"), k5] := by
        obtain ⟨l⟩ := sl
        simp only at hs
        rw [hs]
      subst hsl
      exact ⟨nm, qn, ns, bs, bm, sn, sub, ab, col, dd, k0, k1, k2, k3, k5, ho, q5⟩
    · cases q
  · cases q
def Fx.ok (K : Frag) : Fx → Bool
  | .oex x => oexB K (ga K x)
  | .mro x y => decide (mroIn K (ga K x) (.ref (ga K y)) = some true)
  | .sup x y m z => eqO (ks_superIn K (ga K x) (ga K y) m) (some (some (.ref (ma K (ga K z) m)))) && (decide (typeIn K (.ref (ma K (ga K z) m)) = some (.type "function")) && fnIn K (ma K (ga K z) m))
  | .supx x => eqO (ks_superIn K (ga K x) (ga K x) "__init__") (some (some (.builtin veI))) && decide (subIn K (.ref (ga K x)) (.type "ValueError") = some true)
  | .xf x n => xfB K (ga K x) && eqO (findIn K (.ref (ga K x)) n) (some none)
  | .init x => eqO (findIn K (.ref (ga K x)) "__init__") (some (some (.ref (ma K (ga K x) "__init__")))) && decide (typeIn K (.ref (ma K (ga K x) "__init__")) = some (.type "function"))
  | .opq => eqO (nsIn K cStatics "thirdparty.any") (some none)
  | .blt x id => eqO (nsIn K mainGlobals x) (some (some (.builtin id)))
  | .ins x => eqO (findIn K (.ref (ga K x)) "__class__") (some (some (.builtin "object.__class__"))) && (eqO (specialIn K (.builtin "object.__class__") "__get__") (some (some (.builtin "getset_descriptor.__get__"))) && (decide (takesIn K (.builtin "object.__class__") = some true) && decide (mroIn K (ga K x) (.type "object") = some true)))
  | .xno x n => eqO (findIn K (.ref (ga K x)) n) (some none)
section
variable {K : Frag} {h : Heap} {mg : PySem.Str → Option Value} {x y m z n : PySem.Str} {id : String}
theorem fx_oex (c : (Fx.oex x).ok K = true) : OexC K (ga K x) := oexB_ok c
theorem fx_mro (c : (Fx.mro x y).ok K = true) : mroIn K (ga K x) (.ref (ga K y)) = some true := of_decide_eq_true c
theorem fx_sup (c : (Fx.sup x y m z).ok K = true) : ks_superIn K (ga K x) (ga K y) m = some (some (.ref (ma K (ga K z) m))) ∧ typeIn K (.ref (ma K (ga K z) m)) = some (.type "function") ∧ fnIn K (ma K (ga K z) m) = true := by
  obtain ⟨a, b⟩ := ba c
  obtain ⟨b, d⟩ := ba b
  exact ⟨eqO_ok a, of_decide_eq_true b, d⟩
theorem fx_supx (c : (Fx.supx x).ok K = true) : ks_superIn K (ga K x) (ga K x) "__init__" = some (some (.builtin veI)) ∧ subIn K (.ref (ga K x)) (.type "ValueError") = some true := by
  obtain ⟨a, b⟩ := ba c
  exact ⟨eqO_ok a, of_decide_eq_true b⟩
theorem fx_xf (c : (Fx.xf x n).ok K = true) : XfC K (ga K x) ∧ findIn K (.ref (ga K x)) n = some none := by
  obtain ⟨a, b⟩ := ba c
  exact ⟨xfB_ok a, eqO_ok b⟩
theorem fx_init (c : (Fx.init x).ok K = true) : findIn K (.ref (ga K x)) "__init__" = some (some (.ref (ma K (ga K x) "__init__"))) ∧ typeIn K (.ref (ma K (ga K x) "__init__")) = some (.type "function") := by
  obtain ⟨a, b⟩ := ba c
  exact ⟨eqO_ok a, of_decide_eq_true b⟩
theorem fx_opq (c : (Fx.opq).ok K = true) : nsIn K cStatics "thirdparty.any" = some none := eqO_ok c
theorem fx_blt (X : K.In h) (G : h.Ns mainGlobals mg) (c : (Fx.blt x id).ok K = true) : mg x = some (.builtin id) := by
  have e : nsIn K mainGlobals x = some (some (.builtin id)) := eqO_ok c
  exact PySem.W.mg_of X G e
theorem fx_xno (c : (Fx.xno x n).ok K = true) : findIn K (.ref (ga K x)) n = some none := eqO_ok c
end
/-! ### the Hook -/
abbrev AlY : Type := AlD × Bool × List FnS
def obsY (file : PySem.Str) (fa : List Fa) (fn : List DefD) (sn : List SupD) (fx : List Fx) (K : Frag) : AlY := (obsD fa fn K, ((fx.all fun f => f.ok K) && sn.all fun d => d.ok K file), sn.map fun d => fnS K d.at_)
def valY (fn : List DefD) (sn : List SupD) : AlY := (valD fn, true, sn.map SupD.val)
structure SaysY (file : PySem.Str) (fa : List Fa) (fn : List DefD) (sn : List SupD) (fx : List Fx) (K : Frag) : Prop where
  d : SaysD fa fn K
  x : ∀ f ∈ fx, f.ok K = true
  s : ∀ d ∈ sn, ∃ fd, SupDef K file d.name d.qual d.params d.body d.scope (ga K d.at_.1) (fAd K d.at_) fd
theorem saysY_of {file : PySem.Str} {fa : List Fa} {fn : List DefD} {sn : List SupD} {fx : List Fx} {K : Frag} (e : obsY file fa fn sn fx K = valY fn sn) : SaysY file fa fn sn fx K := by
  have e1 : obsD fa fn K = valD fn := congrArg (fun z : AlY => z.1) e
  have e2 : ((fx.all fun f => f.ok K) && sn.all fun d => d.ok K file) = true := congrArg (fun z : AlY => z.2.1) e
  have e3 : sn.map (fun d => fnS K d.at_) = sn.map SupD.val := congrArg (fun z : AlY => z.2.2) e
  obtain ⟨a, b⟩ := ba e2
  refine ⟨e1, fun f hf => List.all_eq_true.mp a f hf, fun d hd => ?_⟩
  obtain ⟨i, hi, ed⟩ := List.mem_iff_getElem.mp hd
  have h1 : (sn.map fun d => fnS K d.at_)[i]? = some (fnS K d.at_) := by
    rw [List.getElem?_map, List.getElem?_eq_getElem hi, ed]
    rfl
  have h2 : (sn.map SupD.val)[i]? = some d.val := by
    rw [List.getElem?_map, List.getElem?_eq_getElem hi, ed]
    rfl
  rw [e3, h2] at h1
  exact SupD.def_ (Option.some.inj h1).symm (List.all_eq_true.mp b d hd)
def asY (g : Addr → Option Obj) (n : Nat) : List Addr := asD g n ++ [cStatics]
def obsYG (n : Nat) (file : PySem.Str) (fa : List Fa) (fn : List DefD) (sn : List SupD) (fx : List Fx) (g : Addr → Option Obj) : AlY := obsY file fa fn sn fx (frG g (asY g n))
def hookY (n : Nat) (file : PySem.Str) (fa : List Fa) (fn : List DefD) (sn : List SupD) (fx : List Fx) : PySem.W.Hook where
  α := AlY
  obs := fun s => obsYG n file fa fn sn fx s.heap.get?
  val := fun _ => valY fn sn
  says := fun _ h => ∃ K : Frag, K.In h ∧ SaysY file fa fn sn fx K
  of := fun _ _ e => ⟨_, frG_in, saysY_of e⟩
  keeps := fun _ _ _ ⟨K, hK, c⟩ k => ⟨K, Frag.In.keeps hK k, c⟩
theorem obsYG_eq {n : Nat} {file : PySem.Str} {fa : List Fa} {fn : List DefD} {sn : List SupD} {fx : List Fx} {g : Addr → Option Obj} {s : Shared} (h : ∀ a, g a = s.heap.get? a) : obsYG n file fa fn sn fx g = (hookY n file fa fn sn fx).obs s := by
  have e : g = s.heap.get? := funext h
  rw [e] <;> rfl
section
variable {file : PySem.Str} {fa : List Fa} {fn : List DefD} {sn : List SupD} {fx : List Fx} {K : Frag}
theorem SaysY.fact (c : SaysY file fa fn sn fx K) (i : Nat) {f : Fa} (h : fa[i]? = some f := by rfl) : f.ok K = true := c.d.fact i h
theorem SaysY.def_ (c : SaysY file fa fn sn fx K) (i : Nat) {d : DefD} (h : fn[i]? = some d := by rfl) : ∃ fd, FunD K d.name d.qual d.params d.body d.scope (d.dvs K) (d.kws K) (fAd K d.at_) fd := c.d.def_ i h
theorem SaysY.fax (c : SaysY file fa fn sn fx K) (i : Nat) {f : Fx} (h : fx[i]? = some f := by rfl) : f.ok K = true := c.x f (List.mem_of_getElem? h)
theorem SaysY.sup (c : SaysY file fa fn sn fx K) (i : Nat) {d : SupD} (h : sn[i]? = some d := by rfl) : ∃ fd, SupDef K file d.name d.qual d.params d.body d.scope (ga K d.at_.1) (fAd K d.at_) fd := c.s d (List.mem_of_getElem? h)
end
end Sy
set_option Elab.async false
set_option linter.all false
set_option maxRecDepth 100000
set_option maxHeartbeats 4000000
/-! An own class's __init__ that says super(), by its body over data. -/
namespace L3
open PySem PySem.Spec PyProof.Rows L2
theorem fnSI {CX : CXT} {P : Program} {w : World} {K : PySem.W.Frag} {mg : Str → Option Value} {base : Heap} {file x qual : Str} {params : Arguments} {body : List Stmt} {scope : Scope} {D C f : Addr} {fd : FuncData} {N ps : List Str} {k : Nat} {ar : Arg} {nm : Str} {R : List L3.D → Ri → Prop}
    (F : Sy.SupDef K file x qual params body scope D f fd) (S : Sy.FnScopeS N ps scope)
    (hks : scope.names.lookup ("super" : Str) = some .globalImplicit) (hkc : scope.names.lookup ("__class__" : Str) = some .free) (hp : (params.posonlyargs ++ params.args).head? = some ar) (har : ar.arg = nm) (hfile : P.main.file = file)
    (hfree : mg "super" = none) (htop : (P.main.scope.names.lookup ("super" : Str)).isSome = false) (hopq : PySem.W.nsIn K cStatics "thirdparty.any" = some none)
    (len : ∀ ds r, R ds r → ds.length + 1 = ps.length)
    (h : ∀ (cc : Addr) (cdv : Value) (A : Around) (outer : List Env) (s : Shared) (H : Hp) (E : XK), Sy.SupF (Sy.cxS CX P w K mg base N qual scope f cdv cc A outer s H E) D nm → Room k (A.deeper (PySem.W.ksEnv qual scope s.heap.objs.size f cdv cc)) → ∀ ds r, R ds r →
      ∃ t, Sy.PSsA (Sy.cxS CX P w K mg base N qual scope f cdv cc A outer s H E) body body t ∧ ∀ F x, XW K ⟨F, del H x, F, del H x⟩ (fun _ => E) (fun _ C' f y => r = .exc C' f y) → SD K ⟨F, del H x, F, del H x⟩ t (startI N x C ds) (endI x C r)) : FnOk P w K mg base CX (k + 1) f fd ps (spI K C R) := by
  refine F.run S hks hkc hp har hfile hfree htop hopq (fun vs H Q E hs => ?_) fun cc cdv A outer s H vs Q E hS hr hs => ?_
  · obtain ⟨x, dx, ws, F, ds, r, rfl, hx, nf, dm, rv, hR, _⟩ := hs
    show ws.length + 1 = _
    rw [rv.length]
    exact len ds r hR
  · obtain ⟨x, dx, ws, F, ds, r, rfl, hx, nf, dm, rv, hR, ho⟩ := hs
    obtain ⟨t, h1, h2⟩ := h cc cdv A outer s H E hS hr ds r hR
    exact ⟨t, h1, h2 F x (xw_endI ho) _ F H _ (sta_startI hx nf dm rv) (lk_endI ho nf)⟩
end L3
namespace L3
open PySem PySem.Spec PyProof.Rows L2
def tTry (K : PySem.W.Frag) (Wout : WX) (l : List Sy.Hd) (tb : WX → TS) : TS := fun Dn σ H => tb (Sy.wHs K Wout Dn l) Dn σ H
theorem ps_tryK {X : Cx} {K : PySem.W.Frag} {body : List Stmt} {h0 : ExceptHandler} {hs : List ExceptHandler} {l : List Sy.Hd} {pos : Pos} {tb : WX → TS} {Wout : WX} (hK : X.K = K) (hst : X.stack = X.env :: X.outer) (hf : X.env.frame = some X.env.locals) (tk : Takes X Wout)
    (hb : ∀ (W : WX) (pn : List (Addr × Obj)) (xe : Value → Shared → Prop), Takes (X.tr pn xe) W → PassesOwn (model X.prog X.w) X.A X.env xe → PSs (X.tr pn xe) body (tb W))
    (hh : Sy.HdsN X (h0 :: hs) l) : PS X (.Try body (h0 :: hs) [] [] pos) (tTry K Wout l tb) := by
  subst hK
  exact Sy.ps_tryN hst hf tk hb hh
theorem s_tryK {K : PySem.W.Frag} {B : Bs} {δ : Env3} {D' : De} {Wout : WX} {Pout : Env3 → Addr → Str → D → Prop} {tb : WX → TS} {l : List Sy.Hd} (P : Env3 → Addr → Str → D → Prop) (xo : XW K B (WE Wout) Pout) (hb : ∀ (W : WX) (Fb : Fz) (Hb : Hp), XW K ⟨B.F0, B.H0, Fb, Hb⟩ (WE W) P → SD K ⟨B.F0, B.H0, Fb, Hb⟩ (tb W) δ D')
    (hh : ∀ δ2 C f x, P δ2 C f x → HsD K B Pout D' δ2 C f x l) : SD K B (tTry K Wout l tb) δ D' := s_try P xo hb hh
end L3
namespace L3
open PySem PySem.Spec PyProof.Rows L2
theorem Evll.to {K : PySem.W.Frag} {δ : Env3} {te : TE} {r r' : List (List D)} (h : Evll K δ te r) (e : r = r') : Evll K δ te r' := e ▸ h
/-- several equal slots behind -/
theorem okP_pair {a : Str} {x : D} (ha : PyData.strOk a = true) (hx : okP 7 x = true) : okP 8 (.tup [.str a, x]) = true := by
  simp [okP, okPs, ha, hx]
theorem eqP_pair {a b : Str} {i j : Int} : eqP (.tup [.str a, .int i]) (.tup [.str b, .int j]) = (decide (a = b) && decide (i = j)) := by
  unfold eqP
  simp only [toP, toPs, PyData.eqv, PyData.eqvAll, Bool.and_true]
  rw [show (a == b) = decide (a = b) from rfl, show (i == j) = decide (i = j) from rfl]
end L3
set_option Elab.async false
set_option linter.all false
set_option maxRecDepth 100000
set_option maxHeartbeats 4000000
/-! A law's end: the exceptions' reading may name the world. -/
namespace L3
open PySem PySem.Spec PyProof.Rows L2
theorem walk_ofW {l : PySem.W.OpenLaw} {n k : Nat} {q : Program} {loose : List Str} {XP : (Str → Option Value) → Heap → Prop} {YP : World → Heap → Prop} {d : DefRec} {x : Str}
    (hn : l.most = some n) (hn2 : n ≤ sizeLine) (hdf : d.params.defaults = []) (hr : Room k callerA)
    (F : ∀ (w : World) (mg : Str → Option Value) (fa : Addr) (h : Heap), YP w h → h.Ns mainGlobals mg → mg d.name = some (.ref fa) →
      ∃ (K : PySem.W.Frag) (fd : FuncData) (sp : Sp), K.In h ∧ (∀ (s : Shared) (u : Value), BindsTo s fd ⟨[u], []⟩ [(x, u)]) ∧
        (∀ (H : Hp) (a : Addr) (ns : List Int), ns.length ≤ n → Only H → SqL K H a (ns.map V.int) → sp [.ref a] H (fun v _ => v = .bl true) fun _ _ _ => False) ∧
        ∀ base : Heap, K.In base → base.Ns mainGlobals mg → FnOk l.prog w K mg base (L2.CX l.prog w) k fa fd [x] sp) :
    PySem.W.WalkO q loose XP YP l.row.toRowW d [] (fun f vs => PySem.call f vs) := by
  refine Att.attach_call hn hdf fun w s₀ s₁ mg mb fa o pm cd doc a vs ns G Y ho hd hcd hmg hobj hints hlen hg => ?_
  obtain ⟨K, fd, sp, KX, hb, hsp, hF⟩ := F w mg fa _ Y G.T.g hmg
  refine law_call KX G.T.g G.T.b G.T.builtins G.T.nolimit hg hobj hints (Nat.le_trans hlen hn2) hr hF hb (fun H hO hS => hsp H a ns hlen hO hS) fun H e s' h => ?_
  obtain ⟨_, _, _, _, _, _, _, _, _, _, _, _, z⟩ := h
  exact z
/-- the script comes in, True goes out -/
theorem law_in {K : PySem.W.Frag} {R : List D → Rs → Prop} {H : Hp} {a : Addr} {ns : List Int} (hR : R [.scr ns] (.d (.bl true))) (hO : Only H) (hS : SqL K H a (ns.map V.int)) : spR K R [.ref a] H (fun v _ => v = .bl true) fun _ _ _ => False :=
  ⟨fun _ => False, [.scr ns], .d (.bl true), fun _ z => z.elim, .cons (.scr (ScrAt.of hO hS)) .nil, hR, fun v F' H' g r => by
    cases r
    rfl⟩
end L3
set_option Elab.async false
set_option linter.all false
set_option maxRecDepth 100000
set_option maxHeartbeats 4000000
/-! All own objects read at once; weaker slots; loops by a named state. -/
namespace L3
open PySem PySem.Spec PyProof.Rows L2
/-! ### all own objects read as data -/
def rdS (s : Sl) : Sl := match asS s with
  | some x => .d x
  | none => s
def rd (δ : Env3) : Env3 := δ.map rdS
def rdN (n : Nat) (δ : Env3) : Env3 := (δ.take n).map rdS ++ δ.drop n
theorem rdN_len (n : Nat) (δ : Env3) (h : δ.length ≤ n) : rdN n δ = rd δ := by
  unfold rdN rd
  rw [List.take_of_length_le h, List.drop_of_length_le h, List.append_nil]
theorem rdN_zero (δ : Env3) : rdN 0 δ = δ := by
  simp [rdN]
theorem rdN_succ {n : Nat} {δ : Env3} {s : Sl} (h : δ[n]? = some s) : (rdN n δ)[n]? = some s ∧ (rdN n δ).set n (rdS s) = rdN (n + 1) δ := by
  obtain ⟨hn, hs⟩ := List.getElem?_eq_some_iff.mp h
  have hl : ((δ.take n).map rdS).length = n := by rw [List.length_map, List.length_take]; omega
  have hd : δ.drop n = s :: δ.drop (n + 1) := by rw [List.drop_eq_getElem_cons hn, hs]
  constructor
  · unfold rdN
    rw [List.getElem?_append_right (by omega), hl, hd]
    simp
  · unfold rdN
    rw [List.set_append_right _ _ (by omega), hl, hd, List.take_succ, h]
    simp
section
variable {K : PySem.W.Frag} {B : Bs} {δ : Env3} {te : TE} {t : TT} {ts : TS} {d x : D} {ys : List D} {b : Bool} {D' : De}
theorem rd_ind {P : Env3 → Prop} (hs : ∀ (δ : Env3) (i : Nat) (s : Sl) (x : D), δ[i]? = some s → asS s = some x → P (δ.set i (.d x)) → P δ) (h : P (rd δ)) : P δ := by
  have key : ∀ n, P (rdN n δ) → P δ := by
    intro n
    induction n with
    | zero =>
      intro z
      rw [rdN_zero] at z
      exact z
    | succ n ih =>
      intro z
      refine ih ?_
      cases e : δ[n]? with
      | none =>
        have hn : δ.length ≤ n := List.getElem?_eq_none_iff.mp e
        rw [rdN_len _ _ (by omega)] at z
        rw [rdN_len _ _ hn]
        exact z
      | some s =>
        obtain ⟨e1, e2⟩ := rdN_succ e
        rw [← e2] at z
        unfold rdS at z
        cases e3 : asS s with
        | none =>
          rw [e3] at z
          have : (rdN n δ).set n s = rdN n δ := by
            obtain ⟨h1, h2⟩ := List.getElem?_eq_some_iff.mp e1
            rw [← h2]
            exact List.set_getElem_self h1
          simp only [this] at z
          exact z
        | some x =>
          rw [e3] at z
          exact hs _ n s x e1 e3 z
  refine key δ.length ?_
  rw [rdN_len _ _ (Nat.le_refl _)]
  exact h
theorem ev_rd (hp : d.pure = true) (h : Ev K (rd δ) te d) : Ev K δ te d := rd_ind (P := fun δ => Ev K δ te d) (fun _ i _ _ h1 h2 z => ev_tm i h1 h2 hp z) h
theorem evt_rd (h : Evt K (rd δ) t b) : Evt K δ t b := rd_ind (P := fun δ => Evt K δ t b) (fun _ i _ _ h1 h2 z => evt_tm i h1 h2 z) h
theorem evl_rd (hp : D.pures ys = true) (h : Evl K (rd δ) te ys) : Evl K δ te ys := rd_ind (P := fun δ => Evl K δ te ys) (fun _ i _ _ h1 h2 z => evl_tm i h1 h2 hp z) h
/-- all for good -/
theorem s_rd (h : SD K B ts (rd δ) D') : SD K B ts δ D' := rd_ind (P := fun δ => SD K B ts δ D') (fun _ i _ _ h1 h2 z => s_fz i h1 h2 z) h
theorem evll_rd {rows : List (List D)} (hp : ∀ r ∈ rows, D.pures r = true) (h : Evll K (rd δ) te rows) : Evll K δ te rows := rd_ind (P := fun δ => Evll K δ te rows) (fun δ i s x h1 h2 z => fun F0 H0 σ F H S Q q => by
  obtain ⟨T, hT, S2⟩ := S.tmp h1 h2
  refine z F0 H0 σ _ H S2 Q fun a as F' H' g hn nf2 e r na nd => q a as F H' ⟨fun _ z => z, g.keep, fun b hb => .inl hb, fun b hb => g.dom b (g.sub b (.inl hb))⟩ hn (fun z => nf2 (g.sub a (.inl z))) e ?_ na nd
  have key : ∀ {as : List Addr} {rows : List (List D)}, (∀ r ∈ rows, D.pures r = true) → Rows K F' H' H as rows → Rows K F H' H as rows := by
    intro as rows hp r
    induction r with
    | nil => exact .nil
    | cons g1 g2 g3 g4 g5 ih => exact .cons g1 (DVs.any _ _ (hp _ List.mem_cons_self) g2) (fun z => g3 (g.sub _ (.inl z))) g4 (ih fun r hr => hp r (List.mem_cons_of_mem _ hr))
  exact key hp r) h
/-! ### weaker slots -/
def Lek : Env3 → Env3 → Prop
  | [], [] => True
  | s :: ss, s' :: ss' => (s' = s ∨ s' = .un) ∧ Lek ss ss'
  | _, _ => False
theorem Lek.refl : ∀ δ : Env3, Lek δ δ
  | [] => trivial
  | _ :: ss => ⟨.inl rfl, Lek.refl ss⟩
theorem sls_lek {F : Fz} {H H0 : Hp} : ∀ {δ δ' : Env3} {σ : L2.St} {as : List Addr}, Lek δ δ' → Sls K F H H0 δ σ as → as.Nodup → ∃ as', Sls K F H H0 δ' σ as' ∧ as'.Nodup ∧ ∀ a ∈ as', a ∈ as
  | [], [], _, _, _, .nil, _ => ⟨[], .nil, List.nodup_nil, fun a h => by cases h⟩
  | s :: ss, s' :: ss', _, _, h, .cons (v := v) (as := as) (bs := bs) h1 h2, nd => by
    obtain ⟨n1, n2, n3⟩ := List.nodup_append.mp nd
    obtain ⟨h3, h4⟩ := h
    obtain ⟨bs', q1, q2, q3⟩ := sls_lek h4 h2 n2
    rcases h3 with rfl | rfl
    · exact ⟨as ++ bs', .cons h1 q1, List.nodup_append.mpr ⟨n1, q2, fun a ha b hb z => n3 a ha b (q3 b hb) z⟩, fun a ha => by
        rcases List.mem_append.mp ha with ha | ha
        · exact List.mem_append_left _ ha
        · exact List.mem_append_right _ (q3 a ha)⟩
    · exact ⟨bs', .cons (as := []) (.un v) q1, q2, fun a ha => List.mem_append_right _ (q3 a ha)⟩
theorem Sta.lek {F0 F : Fz} {H0 H : Hp} {σ : L2.St} {δ' : Env3} (l : Lek δ δ') (S : Sta K F0 H0 δ σ F H) : Sta K F0 H0 δ' σ F H := by
  obtain ⟨as, h, nd⟩ := S.sl
  obtain ⟨as', q1, q2, _⟩ := sls_lek l h nd
  exact ⟨S.gr, as', q1, q2⟩
theorem s_lek {δ' : Env3} (l : Lek δ δ') (h : SD K B ts δ' D') : SD K B ts δ D' := fun σ F H Dn S L => h σ F H Dn (S.lek l) L
/-- the end is reached at slots that say at least δ' -/
def At {α : Type} (env : α → Env3) (I : α → Prop) : Env3 → Prop := fun δ => ∃ a, I a ∧ Lek δ (env a)
theorem at_mk {α : Type} {env : α → Env3} {I : α → Prop} (a : α) (h : I a) (l : Lek δ (env a) := by repeat (first | exact trivial | refine ⟨Or.inl rfl, ?_⟩ | refine ⟨Or.inr rfl, ?_⟩)) : At env I δ := ⟨a, h, l⟩
theorem q_midE {α : Type} {u : TS} (env : α → Env3) (I : α → Prop) (h : SD K B ts δ { D' with nx := At env I }) (k : ∀ a, I a → SD K B u (env a) D') : SD K B (tSeq ts u) δ D' :=
  q_mid (At env I) h fun δ2 ⟨a, i, l⟩ => s_lek l (k a i)
/-! ### loops -/
theorem s_forE {α : Type} {wi : TI} {g : TG} {js : List Nat} {n : Nat} {item : Nat → D} (env : α → Env3) (I : Nat → α → Prop) (hs : Src K δ wi n item) (a0 : α) (h0 : I 0 a0) (l0 : Lek δ (env a0) := by repeat (first | exact trivial | refine ⟨Or.inl rfl, ?_⟩ | refine ⟨Or.inr rfl, ?_⟩))
    (hb : ∀ i a, i < n → I i a → GD K js g (item i) (env a) fun δ3 => SD K B ts δ3 { D' with nx := At env (I (i + 1)), ct := At env (I (i + 1)), bk := D'.nx }) (hd : ∀ a δ2, I n a → Lek δ2 (env a) → D'.nx δ2) : SD K B (tFor wi g ts) δ D' :=
  s_for hs (fun i => At env (I i)) ⟨a0, h0, l0⟩ (fun i δ2 hi hw => by
    obtain ⟨a, ia, la⟩ := hw
    intro F0 H0 σ F H v S r Q q
    exact hb i a hi ia F0 H0 σ F H v (S.lek la) r Q q) (fun δ2 hw => by
    obtain ⟨a, ia, la⟩ := hw
    exact hd a δ2 ia la)
/-- .. ahead of other statements -/
theorem q_forE {α : Type} {u : TS} {wi : TI} {g : TG} {js : List Nat} {n : Nat} {item : Nat → D} (env : α → Env3) (I : Nat → α → Prop) (hs : Src K δ wi n item) (a0 : α) (h0 : I 0 a0) (l0 : Lek δ (env a0) := by repeat (first | exact trivial | refine ⟨Or.inl rfl, ?_⟩ | refine ⟨Or.inr rfl, ?_⟩))
    (hb : ∀ i a, i < n → I i a → GD K js g (item i) (env a) fun δ3 => SD K B ts δ3 { D' with nx := At env (I (i + 1)), ct := At env (I (i + 1)), bk := fun δ2 => SD K B u δ2 D' }) (hd : ∀ a, I n a → SD K B u (env a) D') : SD K B (tSeq (tFor wi g ts) u) δ D' :=
  q_seq (s_forE env I hs a0 h0 l0 hb fun a δ2 ia l => s_lek l (hd a ia))
/-- over encoded items -/
theorem q_forAE {α β : Type} {u : TS} {wi : TI} {g : TG} {js : List Nat} {l : List β} (enc : β → D) (env : α → Env3) (I : Nat → α → Prop) (hs : Src K δ wi (l.map enc).length fun i => (l.map enc).getD i .non) (a0 : α) (h0 : I 0 a0) (l0 : Lek δ (env a0) := by repeat (first | exact trivial | refine ⟨Or.inl rfl, ?_⟩ | refine ⟨Or.inr rfl, ?_⟩))
    (hb : ∀ i x a, l[i]? = some x → I i a → GD K js g (enc x) (env a) fun δ3 => SD K B ts δ3 { D' with nx := At env (I (i + 1)), ct := At env (I (i + 1)), bk := fun δ2 => SD K B u δ2 D' }) (hd : ∀ a, I l.length a → SD K B u (env a) D') : SD K B (tSeq (tFor wi g ts) u) δ D' :=
  q_forE env I hs a0 h0 l0 (fun i a hi ia => by
    rw [List.length_map] at hi
    rw [getD_enc enc hi]
    exact hb i l[i] a (List.getElem?_eq_getElem hi) ia) (fun a ia => hd a (by rw [List.length_map] at ia; exact ia))
/-- .. a fold -/
theorem q_forF {α β : Type} {u : TS} {wi : TI} {g : TG} {js : List Nat} {l : List β} (enc : β → D) (env : α → Env3) (f : α → β → α) (J : Nat → α → Prop) (hs : Src K δ wi (l.map enc).length fun i => (l.map enc).getD i .non) (a0 : α) (j0 : J 0 a0) (l0 : Lek δ (env a0) := by repeat (first | exact trivial | refine ⟨Or.inl rfl, ?_⟩ | refine ⟨Or.inr rfl, ?_⟩))
    (hb : ∀ i x a, l[i]? = some x → J i a → J (i + 1) (f a x) ∧ GD K js g (enc x) (env a) fun δ3 => SD K B ts δ3 { D' with nx := fun δ4 => Lek δ4 (env (f a x)), ct := fun δ4 => Lek δ4 (env (f a x)), bk := fun _ => False }) (hd : J l.length (l.foldl f a0) → SD K B u (env (l.foldl f a0)) D') : SD K B (tSeq (tFor wi g ts) u) δ D' :=
  q_forAE enc env (fun i a => J i a ∧ a = (l.take i).foldl f a0) hs a0 ⟨j0, by simp⟩ l0 (fun i x a hx ia => by
    obtain ⟨ja, ea⟩ := ia
    obtain ⟨h1, h2⟩ := hb i x a hx ja
    intro F0 H0 σ F H v S r Q q
    refine h2 F0 H0 σ F H v S r Q fun δ3 σ3 p S3 w3 => q δ3 σ3 ?_ S3 w3
    have e : f a x = (l.take (i + 1)).foldl f a0 := by
      rw [List.take_succ, hx, List.foldl_append, ← ea]
      rfl
    exact p.imp (fun δ4 z => ⟨f a x, ⟨h1, e⟩, z⟩) (fun _ z => z) (fun _ z => z.elim) (fun δ4 z => ⟨f a x, ⟨h1, e⟩, z⟩)) (fun a ia => by
    obtain ⟨ja, ea⟩ := ia
    rw [List.take_length] at ea
    subst ea
    exact hd ja)
theorem q_whileE {α : Type} {u : TS} (env : α → Env3) (I : α → Prop) (ms : α → Nat) (a0 : α) (h0 : I a0) (l0 : Lek δ (env a0) := by repeat (first | exact trivial | refine ⟨Or.inl rfl, ?_⟩ | refine ⟨Or.inr rfl, ?_⟩))
    (hb : ∀ a, I a → ∃ b, Evt K (env a) t b ∧ (b = true → SD K B ts (env a) { D' with nx := At env (fun a' => ms a' < ms a ∧ I a'), ct := At env (fun a' => ms a' < ms a ∧ I a'), bk := fun δ2 => SD K B u δ2 D' }) ∧ (b = false → SD K B u (env a) D')) : SD K B (tSeq (tWhile t ts) u) δ D' :=
  q_seq (s_while (fun m => At env fun a => ms a = m ∧ I a) (ms a0) ⟨a0, ⟨rfl, h0⟩, l0⟩ (fun m δ2 hw => by
    obtain ⟨a, ⟨rfl, ia⟩, la⟩ := hw
    obtain ⟨b, h1, h2, h3⟩ := hb a ia
    refine ⟨b, fun F0 H0 σ F H S Q q => h1 F0 H0 σ F H (S.lek la) Q q, fun z => s_lek la ((h2 z).imp ?_ (fun _ z => z) (fun _ z => z) ?_), fun z => s_lek la (h3 z)⟩
    · rintro δ3 ⟨a', ⟨h4, h5⟩, h6⟩
      exact ⟨ms a', h4, a', ⟨rfl, h5⟩, h6⟩
    · rintro δ3 ⟨a', ⟨h4, h5⟩, h6⟩
      exact ⟨ms a', h4, a', ⟨rfl, h5⟩, h6⟩))
/-! ### lists of lists kept as data -/
theorem rows_fz {F : Fz} {H H0 : Hp} {as : List Addr} {rows : List (List D)} (r : Rows K F H H0 as rows) : DVs K (L3.bind F fun a => a ∈ as) H (as.map V.ref) (rows.map D.lst) := rows_as r fun a h => h
theorem evl_fr {rows : List (List D)} (h : Evll K δ te rows) : Evl K δ te (rows.map D.lst) := fun F0 H0 σ F H S Q q =>
  h F0 H0 σ F H S Q fun a as F' H' g ha nf e r na nd => q a (as.map V.ref) (L3.bind F' fun b => b ∈ as) H' ⟨fun b z => .inl (g.sub b z), g.keep, fun b z => by
    rcases z with z | z
    · exact g.new b z
    · exact .inr (Rows.at_ r b z).2.2, fun b z => by
    rcases z with z | z
    · exact g.dom b z
    · exact (Rows.at_ r b z).1⟩ ha (fun z => by
    rcases z with z | z
    · exact nf z
    · exact na z) e (rows_fz r)
theorem ev_ll {rows : List (List D)} (h : Evll K δ te rows) : Ev K δ te (.lst (rows.map D.lst)) := ev_l (evl_fr h)
/-! ### encodings -/
abbrev eL {α : Type} (f : α → D) (l : List α) : D := .lst (l.map f)
abbrev eT {α : Type} (f : α → D) (l : List α) : D := .tup (l.map f)
theorem wdiv {n : Int} (h0 : 0 < n) (h1 : n < 2147483648) (i : Int) : CDivW i n := wide_div h0 (by omega) (b := 31) (by decide) (by decide)
end
end L3
set_option Elab.async false
set_option linter.all false
set_option maxRecDepth 100000
set_option maxHeartbeats 4000000
/-! Own trees: made, read, changed at a place. -/
namespace L3
open PySem PySem.Spec PyProof.Rows L2
section
variable {K : PySem.W.Frag} {F F' F0 : Fz} {H H' H0 H1 : Hp}
mutual
theorem TrR.base (h : ∀ a, H0 a = none → H1 a = none) : ∀ (t : Tr) {v : V} {as : List Addr}, TrR K F H H0 t v as → TrR K F H H1 t v as
  | .d x, _, _, r => by
    cases r with
    | d r => exact .d r
  | .l ts, _, _, r => by
    cases r with
    | l h1 h2 h3 h4 => exact .l h1 h2 (h _ h3) (TrRs.base h ts h4)
  | .t ts, _, _, r => by
    cases r with
    | t h1 h2 => exact .t h1 (TrRs.base h ts h2)
theorem TrRs.base (h : ∀ a, H0 a = none → H1 a = none) : ∀ (ts : List Tr) {vs : List V} {as : List Addr}, TrRs K F H H0 ts vs as → TrRs K F H H1 ts vs as
  | [], _, _, r => by
    cases r
    exact .nil
  | u :: ts, _, _, r => by
    cases r with
    | cons h1 h2 => exact .cons (TrR.base h u h1) (TrRs.base h ts h2)
end
theorem tr_keep {as : List Addr} (g : Gr F H F' H') (h : ∀ a ∈ as, (∃ vs, H a = some (.lst vs)) ∧ ¬ F a ∧ H0 a = none) : ∀ a ∈ as, H' a = H a ∧ ¬ F' a := fun b hb => by
  obtain ⟨⟨u, eu⟩, nfb, _⟩ := h b hb
  refine ⟨(g.keep b _ eu).trans eu.symm, fun z => ?_⟩
  rcases g.new b z with z | z
  · exact nfb z
  · rw [eu] at z
    cases z
theorem TrR.go (g : Gr F H F' H') {t : Tr} {v : V} {as : List Addr} (r : TrR K F H H0 t v as) : TrR K F' H' H0 t v as := r.le g.le _ (tr_keep g (r.at_ _))
theorem TrRs.go (g : Gr F H F' H') {ts : List Tr} {vs : List V} {as : List Addr} (r : TrRs K F H H0 ts vs as) : TrRs K F' H' H0 ts vs as := r.le g.le _ (tr_keep g (r.at_ _))
theorem TrRs.ds : ∀ {vs : List V} {ds : List D}, DVs K F H vs ds → TrRs K F H H0 (ds.map Tr.d) vs []
  | _, _, .nil => .nil
  | _, _, .cons h1 h2 => .cons (as := []) (.d h1) (TrRs.ds h2)
theorem TrRs.length : ∀ {ts : List Tr} {vs : List V} {as : List Addr}, TrRs K F H H0 ts vs as → vs.length = ts.length
  | _, _, _, .nil => rfl
  | _, _, _, .cons _ h2 => congrArg Nat.succ (TrRs.length h2)
theorem TrRs.rows : ∀ {as : List Addr} {rows : List (List D)}, Rows K F H H0 as rows → TrRs K F H H0 (rows.map fun r => Tr.l (r.map Tr.d)) (as.map V.ref) as
  | _, _, .nil => .nil
  | _, _, .cons h1 h2 h3 h4 h5 => .cons (.l h1 h3 h4 (TrRs.ds h2)) (TrRs.rows h5)
theorem TrRs.append : ∀ {ts us : List Tr} {vs ws : List V} {as bs : List Addr}, TrRs K F H H0 ts vs as → TrRs K F H H0 us ws bs → TrRs K F H H0 (ts ++ us) (vs ++ ws) (as ++ bs)
  | _, _, _, _, _, _, .nil, h => h
  | _, _, _, _, _, _, .cons h1 h2, h => by
    rw [List.append_assoc]
    exact .cons h1 (TrRs.append h2 h)
end
section
variable (K : PySem.W.Frag) (δ : Env3)
/-- te gives a new tree; arguments that are new trees -/
def Evr (te : TE) (t : Tr) : Prop := ∀ F0 H0 σ F H, Sta K F0 H0 δ σ F H → ∀ Q : VK, (∀ v as F' H', Gr F H F' H' → TrR K F' H' H t v as → as.Nodup → Q v H') → te σ H Q
def Evra (tA : TA) (ts : List Tr) : Prop := ∀ F0 H0 σ F H, Sta K F0 H0 δ σ F H → ∀ Q : List V → Hp → Prop, (∀ vs as F' H', Gr F H F' H' → TrRs K F' H' H ts vs as → as.Nodup → Q vs H') → tA σ H Q
end
section
variable {K : PySem.W.Frag} {B : Bs} {δ : Env3} {te ta tb : TE} {tA : TA} {ts : TS} {d x : D} {xs ys : List D} {rows : List (List D)} {t : Tr} {us : List Tr} {D' : De} {i : Nat}
theorem Evr.to (h : Evr K δ te t) {t' : Tr} (e : t = t') : Evr K δ te t' := e ▸ h
theorem evr_d (h : Ev K δ te d) : Evr K δ te (.d d) := fun F0 H0 σ F H S Q q => h F0 H0 σ F H S Q fun v F' H' g r => q v [] F' H' g (.d r) List.nodup_nil
theorem evr_l (h : Evl K δ te xs) : Evr K δ te (.l (xs.map Tr.d)) := fun F0 H0 σ F H S Q q => h F0 H0 σ F H S Q fun a vs F' H' g ha nf e r => q _ [a] F' H' g (.l e nf ha (TrRs.ds r)) (List.nodup_cons.mpr ⟨by simp, List.nodup_nil⟩)
theorem evr_ll (h : Evll K δ te rows) : Evr K δ te (.l (rows.map fun r => Tr.l (r.map Tr.d))) := fun F0 H0 σ F H S Q q => h F0 H0 σ F H S Q fun a as F' H' g ha nf e r na nd => q _ (a :: as) F' H' g (.l e nf ha (TrRs.rows r)) (List.nodup_cons.mpr ⟨na, nd⟩)
theorem evra_nil : Evra K δ tNil [] := fun F0 H0 σ F H S Q q => q [] [] F H (.refl S.dom) .nil List.nodup_nil
theorem evra_cons (h : Evr K δ te t) (hr : Evra K δ tA us) : Evra K δ (tCons te tA) (t :: us) := fun F0 H0 σ F H S Q q =>
  h F0 H0 σ F H S _ fun v as F1 H1 g1 r1 n1 => hr F0 H0 σ F1 H1 (S.go g1) _ fun vs bs F2 H2 g2 r2 n2 =>
    q (v :: vs) (as ++ bs) F2 H2 (g1.trans g2) (.cons (r1.go g2) (r2.base (fun a ha => g1.back ha) _)) (List.nodup_append.mpr ⟨n1, n2, fun a ha b hb z => by
      obtain ⟨⟨u, eu⟩, _⟩ := r1.at_ _ a ha
      have := (r2.at_ _ b hb).2.2
      rw [← z, eu] at this
      cases this⟩)
theorem evr_tup (h : Evra K δ tA us) (hz : us.length ≤ 100000 := by first | decide | exact Nat.le_of_ble_eq_true rfl) : Evr K δ (tTup tA) (.t us) := fun F0 H0 σ F H S Q q =>
  h F0 H0 σ F H S _ fun vs as F1 H1 g1 r1 n1 => ⟨by rw [r1.length]; exact sz5 hz, fun p hp => q _ as F1 _ (g1.upd hp) (.t upd_same (r1.go ((Gr.refl g1.dom).upd hp))) n1⟩
theorem evr_lst (h : Evra K δ tA us) (hz : us.length ≤ 100000 := by first | decide | exact Nat.le_of_ble_eq_true rfl) : Evr K δ (tLst tA) (.l us) := fun F0 H0 σ F H S Q q =>
  h F0 H0 σ F H S _ fun vs as F1 H1 g1 r1 n1 => ⟨by rw [r1.length]; exact sz5 hz, fun p hp => q _ (p :: as) F1 _ (g1.upd hp) (.l upd_same (fun z => by
    obtain ⟨o, e⟩ := g1.dom p z
    rw [hp] at e
    cases e) (g1.back hp) (r1.go ((Gr.refl g1.dom).upd hp))) (List.nodup_cons.mpr ⟨(fun hm => by
    obtain ⟨⟨u, eu⟩, _⟩ := r1.at_ _ p hm
    rw [hp] at eu
    cases eu), n1⟩)⟩
theorem Sta.setr {F0 F F' : Fz} {H0 H H' : Hp} {σ : L2.St} (S : Sta K F0 H0 δ σ F H) (g : Gr F H F' H') {v : V} {as : List Addr} (i : Nat) (r : TrR K F' H' H t v as) (nd : as.Nodup) : Sta K F0 H0 (δ.set i (.tr t)) (σ.set i (some v)) F' H' := by
  have S2 := S.go g
  obtain ⟨as0, h, nd0⟩ := S.sl
  have h' := Sls.le g.le (fun b hb => by
    obtain ⟨⟨u, eu⟩, nf, _⟩ := h.at_ b hb
    refine ⟨(g.keep b u eu).trans eu.symm, fun z => ?_⟩
    rcases g.new b z with z | z
    · exact nf z
    · rw [eu] at z
      cases z) h
  have r0 : TrR K F' H' H0 t v as := r.base (fun b hb => S.gr.back hb) _
  obtain ⟨as', q4, q5, _⟩ := h'.set (.tr r0) nd i nd0 fun b hb hm => by
    obtain ⟨⟨u, eu⟩, _, _⟩ := h.at_ b hm
    rw [(r.at_ _ b hb).2.2] at eu
    cases eu
  exact ⟨S2.gr, as', q4, q5⟩
theorem s_setr (h : Evr K δ te t) (k : D'.nx (δ.set i (.tr t))) : SD K B (tAsg te (gName i)) δ D' := fun σ F H Dn S L => h _ _ σ F H S _ fun v as F1 H1 g1 r nd =>
  L.nx _ _ F1 H1 k (S.setr g1 i r nd) g1.le
end

/-! ### places -/
inductive Sub (H : Hp) : V → List Nat → V → Prop
  | nil (v : V) : Sub H v [] v
  | lst {a : Addr} {vs : List V} {k : Nat} {w u : V} {p : List Nat} : H a = some (.lst vs) → vs[k]? = some w → Sub H w p u → Sub H (.ref a) (k :: p) u
  | tup {a : Addr} {vs : List V} {k : Nat} {w u : V} {p : List Nat} : H a = some (.tup vs) → vs[k]? = some w → Sub H w p u → Sub H (.ref a) (k :: p) u
theorem Sub.keep {H H' : Hp} (hk : ∀ a o, H a = some o → H' a = some o) : ∀ {v u : V} {p : List Nat}, Sub H v p u → Sub H' v p u
  | _, _, _, .nil v => .nil v
  | _, _, _, .lst h1 h2 h3 => .lst (hk _ _ h1) h2 (Sub.keep hk h3)
  | _, _, _, .tup h1 h2 h3 => .tup (hk _ _ h1) h2 (Sub.keep hk h3)
theorem Sub.snocL {H : Hp} {vs : List V} {k : Nat} {w : V} {a : Addr} (h1 : H a = some (.lst vs)) (h2 : vs[k]? = some w) : ∀ {v : V} {p : List Nat}, Sub H v p (.ref a) → Sub H v (p ++ [k]) w
  | _, _, .nil _ => .lst h1 h2 (.nil w)
  | _, _, .lst g1 g2 g3 => .lst g1 g2 (Sub.snocL h1 h2 g3)
  | _, _, .tup g1 g2 g3 => .tup g1 g2 (Sub.snocL h1 h2 g3)
theorem Sub.snocT {H : Hp} {vs : List V} {k : Nat} {w : V} {a : Addr} (h1 : H a = some (.tup vs)) (h2 : vs[k]? = some w) : ∀ {v : V} {p : List Nat}, Sub H v p (.ref a) → Sub H v (p ++ [k]) w
  | _, _, .nil _ => .tup h1 h2 (.nil w)
  | _, _, .lst g1 g2 g3 => .lst g1 g2 (Sub.snocT h1 h2 g3)
  | _, _, .tup g1 g2 g3 => .tup g1 g2 (Sub.snocT h1 h2 g3)
/-- the tree at a place; the tree with another one there -/
def Tr.get : Tr → List Nat → Option Tr
  | u, [] => some u
  | .l us, k :: p => match us[k]? with
    | some u => Tr.get u p
    | none => none
  | .t us, k :: p => match us[k]? with
    | some u => Tr.get u p
    | none => none
  | .d _, _ :: _ => none
def Tr.put : Tr → List Nat → Tr → Tr
  | _, [], w => w
  | .l us, k :: p, w => match us[k]? with
    | some u => .l (us.set k (Tr.put u p w))
    | none => .l us
  | .t us, k :: p, w => match us[k]? with
    | some u => .t (us.set k (Tr.put u p w))
    | none => .t us
  | .d x, _ :: _, _ => .d x
section
variable {K : PySem.W.Frag} {F F0 : Fz} {H H0 : Hp}
theorem TrRs.at2 : ∀ {us : List Tr} {vs : List V} {as : List Addr} {k : Nat} {u : Tr}, TrRs K F H H0 us vs as → as.Nodup → us[k]? = some u →
    ∃ v bs, vs[k]? = some v ∧ TrR K F H H0 u v bs ∧ bs.Nodup ∧ (∀ b ∈ bs, b ∈ as) ∧ ∀ H' u' bs', Le F H F H' → (∀ b, b ∉ bs → H' b = H b) → TrR K F H' H0 u' v bs' → bs'.Nodup → (∀ b ∈ bs', b ∈ bs) → ∃ as', TrRs K F H' H0 (us.set k u') vs as' ∧ as'.Nodup ∧ ∀ b ∈ as', b ∈ as
  | _, _, _, _, _, .nil, _, e => by simp at e
  | _, _, _, 0, u, .cons (t := t0) (as := as) (bs := cs) h1 h2, nd, e => by
    have e2 : t0 = u := by simpa using e
    subst e2
    obtain ⟨n1, n2, n3⟩ := List.nodup_append.mp nd
    refine ⟨_, as, rfl, h1, n1, fun b hb => List.mem_append_left _ hb, fun H' u' bs' l hk r n4 sub => ⟨bs' ++ cs, .cons r (h2.le l _ fun b hb => ⟨hk b fun z => n3 b z b hb rfl, (h2.at_ _ b hb).2.1⟩), List.nodup_append.mpr ⟨n4, n2, fun a ha b hb z => n3 a (sub a ha) b hb z⟩, fun b hb => ?_⟩⟩
    rcases List.mem_append.mp hb with hb | hb
    · exact List.mem_append_left _ (sub b hb)
    · exact List.mem_append_right _ hb
  | _, _, _, k + 1, u, .cons (as := as) (bs := cs) h1 h2, nd, e => by
    obtain ⟨n1, n2, n3⟩ := List.nodup_append.mp nd
    obtain ⟨v, bs, e1, r1, n5, s1, wr⟩ := TrRs.at2 (k := k) h2 n2 (by simpa using e)
    refine ⟨v, bs, by simpa using e1, r1, n5, fun b hb => List.mem_append_right _ (s1 b hb), fun H' u' bs' l hk r n4 sub => ?_⟩
    obtain ⟨as', q1, q2, q3⟩ := wr H' u' bs' l hk r n4 sub
    refine ⟨as ++ as', .cons (h1.le l _ fun b hb => ⟨hk b fun z => n3 b hb b (s1 b z) rfl, (h1.at_ _ b hb).2.1⟩) q1, List.nodup_append.mpr ⟨n1, q2, fun a ha b hb z => n3 a ha b (q3 b hb) z⟩, fun b hb => ?_⟩
    rcases List.mem_append.mp hb with hb | hb
    · exact List.mem_append_left _ hb
    · exact List.mem_append_right _ (q3 b hb)
/-- an own list in a tree, and how it is written -/
theorem TrR.place : ∀ (p : List Nat) {t : Tr} {v w : V} {as : List Addr} {us : List Tr}, TrR K F H H0 t v as → as.Nodup → Sub H v p w → t.get p = some (.l us) →
    ∃ a vs cs, w = .ref a ∧ H a = some (.lst vs) ∧ TrRs K F H H0 us vs cs ∧ ¬ F a ∧ cs.Nodup ∧ a ∉ cs ∧ a ∈ as ∧ (∀ c ∈ cs, c ∈ as) ∧ ∀ us' vs' cs', TrRs K F (upd H a (.lst vs')) H0 us' vs' cs' → cs'.Nodup → (∀ c ∈ cs', c ∈ cs) → ∃ as', TrR K F (upd H a (.lst vs')) H0 (t.put p (.l us')) v as' ∧ as'.Nodup ∧ ∀ b ∈ as', b ∈ as
  | [], u0, v, w, as, us, r, nd, s, e => by
    cases s
    have e2 : u0 = .l us := by
      unfold Tr.get at e
      cases u0 <;> exact Option.some.inj e
    subst e2
    cases r with
    | @l a vs _ cs h1 h2 h3 h4 =>
      obtain ⟨n1, n2⟩ := List.nodup_cons.mp nd
      refine ⟨a, vs, cs, rfl, h1, h4, h2, n2, n1, List.mem_cons_self, fun c hc => List.mem_cons_of_mem _ hc, fun us' vs' cs' r' n3 sub => ⟨a :: cs', ?_, List.nodup_cons.mpr ⟨fun z => n1 (sub _ z), n3⟩, fun b hb => ?_⟩⟩
      · have : Tr.put (.l us) [] (.l us') = .l us' := by simp [Tr.put]
        rw [this]
        exact .l upd_same h2 h3 r'
      · rcases List.mem_cons.mp hb with rfl | hb
        · exact List.mem_cons_self
        · exact List.mem_cons_of_mem _ (sub b hb)
  | k :: p, u0, v, w, as, us, r, nd, s, e => by
    cases r with
    | d _ => simp [Tr.get] at e
    | @l a0 vs0 ts0 as0 h1 h2 h3 h4 =>
      obtain ⟨n1, n2⟩ := List.nodup_cons.mp nd
      simp only [Tr.get] at e
      cases e1 : ts0[k]? with
      | none => simp [e1] at e
      | some u =>
        simp only [e1] at e
        obtain ⟨v1, bs, f1, f2, f3, f4, wr⟩ := h4.at2 n2 e1
        cases s with
        | @lst _ vs1 _ w1 _ _ g1 g2 g3 =>
          rw [h1] at g1
          cases g1
          rw [f1] at g2
          cases g2
          obtain ⟨a, vs, cs, q1, q2, q3, q4, q5, q6, q7, q8, q9⟩ := TrR.place p f2 f3 g3 e
          have ne : a0 ≠ a := fun z => n1 (z ▸ f4 _ q7)
          refine ⟨a, vs, cs, q1, q2, q3, q4, q5, q6, List.mem_cons_of_mem _ (f4 _ q7), fun c hc => List.mem_cons_of_mem _ (f4 _ (q8 c hc)), fun us' vs' cs' r' n3 sub => ?_⟩
          obtain ⟨as1, z1, z2, z3⟩ := q9 us' vs' cs' r' n3 sub
          obtain ⟨as2, y1, y2, y3⟩ := wr (upd H a (.lst vs')) _ as1 (Le.mut q4 q2 trivial) (fun b hb => upd_ne fun z => hb (z ▸ q7)) z1 z2 z3
          refine ⟨a0 :: as2, ?_, List.nodup_cons.mpr ⟨fun z => n1 (y3 _ z), y2⟩, fun b hb => ?_⟩
          · simp only [Tr.put, e1]
            exact .l (by rw [upd_ne ne]; exact h1) h2 h3 y1
          · rcases List.mem_cons.mp hb with rfl | hb
            · exact List.mem_cons_self
            · exact List.mem_cons_of_mem _ (y3 b hb)
        | tup g1 _ _ =>
          rw [h1] at g1
          cases g1
    | @t a0 vs0 ts0 _ h1 h4 =>
      simp only [Tr.get] at e
      cases e1 : ts0[k]? with
      | none => simp [e1] at e
      | some u =>
        simp only [e1] at e
        obtain ⟨v1, bs, f1, f2, f3, f4, wr⟩ := h4.at2 nd e1
        cases s with
        | @tup _ vs1 _ w1 _ _ g1 g2 g3 =>
          rw [h1] at g1
          cases g1
          rw [f1] at g2
          cases g2
          obtain ⟨a, vs, cs, q1, q2, q3, q4, q5, q6, q7, q8, q9⟩ := TrR.place p f2 f3 g3 e
          have ne : a0 ≠ a := fun z => by
            subst z
            rw [h1] at q2
            cases q2
          refine ⟨a, vs, cs, q1, q2, q3, q4, q5, q6, f4 _ q7, fun c hc => f4 _ (q8 c hc), fun us' vs' cs' r' n3 sub => ?_⟩
          obtain ⟨as1, z1, z2, z3⟩ := q9 us' vs' cs' r' n3 sub
          obtain ⟨as2, y1, y2, y3⟩ := wr (upd H a (.lst vs')) _ as1 (Le.mut q4 q2 trivial) (fun b hb => upd_ne fun z => hb (z ▸ q7)) z1 z2 z3
          refine ⟨as2, ?_, y2, y3⟩
          simp only [Tr.put, e1]
          exact .t (by rw [upd_ne ne]; exact h1) y1
        | lst g1 _ _ =>
          rw [h1] at g1
          cases g1
end
/-- te stands for the place p of the tree in slot i -/
def Pl (K : PySem.W.Frag) (δ : Env3) (te : TE) (i : Nat) (p : List Nat) : Prop := ∀ F0 H0 σ F H, Sta K F0 H0 δ σ F H → ∀ Q : VK, (∀ v w F' H', Gr F H F' H' → σ[i]? = some (some v) → Sub H' v p w → Q w H') → te σ H Q
section
variable {K : PySem.W.Frag} {B : Bs} {δ : Env3} {te ta tb : TE} {tA : TA} {d x : D} {t : Tr} {us : List Tr} {D' : De} {i : Nat} {p : List Nat}
theorem Sta.tr {F0 F : Fz} {H0 H : Hp} {σ : L2.St} (S : Sta K F0 H0 δ σ F H) (h : δ[i]? = some (.tr t)) : ∃ v as, σ[i]? = some (some v) ∧ TrR K F H H0 t v as ∧ as.Nodup ∧ ∀ H' t' as', Le F H F H' → (∀ b, b ∉ as → H' b = H b) → TrR K F H' H0 t' v as' → as'.Nodup → (∀ b ∈ as', b ∈ as) → Sta K F0 H0 (δ.set i (.tr t')) σ F H' := by
  obtain ⟨as0, hs, nd⟩ := S.sl
  have key : ∀ {δ : Env3} {σ : L2.St} {as0 : List Addr} (i : Nat), Sls K F H H0 δ σ as0 → as0.Nodup → δ[i]? = some (.tr t) →
      ∃ v as, σ[i]? = some (some v) ∧ TrR K F H H0 t v as ∧ as.Nodup ∧ (∀ b ∈ as, b ∈ as0) ∧ ∀ H' t' as', Le F H F H' → (∀ b, b ∉ as → H' b = H b) → TrR K F H' H0 t' v as' → as'.Nodup → (∀ b ∈ as', b ∈ as) → ∃ as1, Sls K F H' H0 (δ.set i (.tr t')) σ as1 ∧ as1.Nodup ∧ ∀ b ∈ as1, b ∈ as0 := by
    intro δ σ as0 i hs
    induction hs generalizing i with
    | nil =>
      intro _ e
      simp at e
    | @cons s v bs cs ss vs h1 h2 ih =>
      intro nd e
      obtain ⟨n1, n2, n3⟩ := List.nodup_append.mp nd
      cases i with
      | zero =>
        have e2 := Option.some.inj (by simpa using e)
        subst e2
        cases h1 with
        | @tr v _ as r =>
          refine ⟨v, bs, rfl, r, n1, fun b hb => List.mem_append_left _ hb, fun H' t' as' l hk r' n4 sub => ⟨as' ++ cs, .cons (.tr r') (Sls.le l (fun b hb => ⟨hk b fun z => n3 b z b hb rfl, (h2.at_ b hb).2.1⟩) h2), List.nodup_append.mpr ⟨n4, n2, fun a ha b hb z => n3 a (sub a ha) b hb z⟩, fun b hb => ?_⟩⟩
          rcases List.mem_append.mp hb with hb | hb
          · exact List.mem_append_left _ (sub b hb)
          · exact List.mem_append_right _ hb
      | succ i =>
        obtain ⟨v, as, e1, r, n5, s1, wr⟩ := ih i n2 (by simpa using e)
        refine ⟨v, as, by simpa using e1, r, n5, fun b hb => List.mem_append_right _ (s1 b hb), fun H' t' as' l hk r' n4 sub => ?_⟩
        obtain ⟨as1, q1, q2, q3⟩ := wr H' t' as' l hk r' n4 sub
        refine ⟨bs ++ as1, .cons (h1.le l fun b hb => ⟨hk b fun z => n3 b hb b (s1 b z) rfl, (h1.at_ b hb).2.1⟩) q1, List.nodup_append.mpr ⟨n1, q2, fun a ha b hb z => n3 a ha b (q3 b hb) z⟩, fun b hb => ?_⟩
        rcases List.mem_append.mp hb with hb | hb
        · exact List.mem_append_left _ hb
        · exact List.mem_append_right _ (q3 b hb)
  obtain ⟨v, as, e1, r, n5, s1, wr⟩ := key i hs nd h
  refine ⟨v, as, e1, r, n5, fun H' t' as' l hk r' n4 sub => ?_⟩
  obtain ⟨as1, q1, q2, q3⟩ := wr H' t' as' l hk r' n4 sub
  refine ⟨⟨S.gr.sub, fun b u eb => ?_, S.gr.new, fun b hb => ?_⟩, as1, q1, q2⟩
  · have : b ∉ as := fun z => by
      have := (r.at_ _ b z).2.2
      rw [eb] at this
      cases this
    rw [hk b this]
    exact S.gr.keep b u eb
  · obtain ⟨u, eu⟩ := S.gr.dom b hb
    exact ⟨u, l.keep b u hb eu⟩
theorem pl_var (h : δ[i]? = some (.tr t)) : Pl K δ (tVar i) i [] := fun F0 H0 σ F H S Q q => by
  obtain ⟨v, as, e1, r, _⟩ := S.tr h
  exact ⟨v, e1, q v v F H (.refl S.dom) e1 (.nil v)⟩
theorem Sub.has {F0 F : Fz} {H0 H : Hp} : ∀ {p : List Nat} {t : Tr} {v w : V} {as : List Addr} {u : Tr}, TrR K F H H0 t v as → Sub H v p w → t.get p = some u → ∃ bs, TrR K F H H0 u w bs
  | [], t, v, w, as, u, r, s, e => by
    cases s
    have e2 : t = u := by
      unfold Tr.get at e
      cases t <;> exact Option.some.inj e
    subst e2
    exact ⟨as, r⟩
  | k :: p, t, v, w, as, u, r, s, e => by
    have at1 : ∀ {us : List Tr} {vs : List V} {as : List Addr} {k : Nat} {u : Tr}, TrRs K F H H0 us vs as → us[k]? = some u → ∃ v bs, vs[k]? = some v ∧ TrR K F H H0 u v bs := by
      intro us
      induction us with
      | nil =>
        intro vs as k u _ e
        simp at e
      | cons u0 us ih =>
        intro vs as k u r e
        cases r with
        | cons r1 r2 =>
          cases k with
          | zero =>
            have : u0 = u := by simpa using e
            subst this
            exact ⟨_, _, rfl, r1⟩
          | succ k =>
            obtain ⟨v, bs, e1, e2⟩ := ih (k := k) r2 (by simpa using e)
            exact ⟨v, bs, by simpa using e1, e2⟩
    cases r with
    | d _ => simp [Tr.get] at e
    | @l a0 vs0 ts0 as0 h1 h2 h3 h4 =>
      simp only [Tr.get] at e
      cases e1 : ts0[k]? with
      | none => simp [e1] at e
      | some u1 =>
        simp only [e1] at e
        obtain ⟨v1, bs, f1, f2⟩ := at1 h4 e1
        cases s with
        | lst g1 g2 g3 =>
          rw [h1] at g1
          cases g1
          rw [f1] at g2
          cases g2
          exact Sub.has (F0 := F0) f2 g3 e
        | tup g1 _ _ =>
          rw [h1] at g1
          cases g1
    | @t a0 vs0 ts0 _ h1 h4 =>
      simp only [Tr.get] at e
      cases e1 : ts0[k]? with
      | none => simp [e1] at e
      | some u1 =>
        simp only [e1] at e
        obtain ⟨v1, bs, f1, f2⟩ := at1 h4 e1
        cases s with
        | tup g1 g2 g3 =>
          rw [h1] at g1
          cases g1
          rw [f1] at g2
          cases g2
          exact Sub.has (F0 := F0) f2 g3 e
        | lst g1 _ _ =>
          rw [h1] at g1
          cases g1
theorem TrRs.nth {F0 F : Fz} {H0 H : Hp} {vs : List V} {as : List Addr} (r : TrRs K F H H0 us vs as) {j : Nat} (h : j < us.length) : ∃ w, vs[j]? = some w := by
  rw [← r.length] at h
  exact ⟨_, List.getElem?_eq_getElem h⟩
theorem pl_ixL {k : Int} {j : Nat} (h : δ[i]? = some (.tr t)) (hp : Pl K δ te i p) (e : t.get p = some (.l us)) (hk : Ev K δ tb (.int k)) (hj : ixN us.length k = some j) (hlt : j < us.length) : Pl K δ (tOp (rIxL K) te tb) i (p ++ [j]) := fun F0 H0 σ F H S Q q =>
  hp F0 H0 σ F H S _ fun v w F1 H1 g1 e1 s1 => hk F0 H0 σ F1 H1 (S.go g1) _ fun u F2 H2 g2 r2 => by
    cases r2
    obtain ⟨v', as, e2, r, nd, _⟩ := ((S.go g1).go g2).tr h
    rw [e1] at e2
    cases e2
    have s2 := s1.keep g2.keep
    obtain ⟨bs, rr⟩ := Sub.has (F0 := F0) r s2 e
    cases rr with
    | @l a vs _ cs h1 h2 h3 h4 =>
      obtain ⟨x, ex⟩ := h4.nth (F0 := F0) hlt
      refine ⟨a, vs, k, x, rfl, rfl, SqL.of h1, ?_, q v x F2 H2 (g1.trans g2) e1 (Sub.snocL h1 ex s2)⟩
      unfold atI
      rw [h4.length, hj]
      exact ex
theorem pl_ixT {k : Int} {j : Nat} (h : δ[i]? = some (.tr t)) (hp : Pl K δ te i p) (e : t.get p = some (.t us)) (hk : Ev K δ tb (.int k)) (hj : ixN us.length k = some j) (hlt : j < us.length) : Pl K δ (tOp (rIxT K) te tb) i (p ++ [j]) := fun F0 H0 σ F H S Q q =>
  hp F0 H0 σ F H S _ fun v w F1 H1 g1 e1 s1 => hk F0 H0 σ F1 H1 (S.go g1) _ fun u F2 H2 g2 r2 => by
    cases r2
    obtain ⟨v', as, e2, r, nd, _⟩ := ((S.go g1).go g2).tr h
    rw [e1] at e2
    cases e2
    have s2 := s1.keep g2.keep
    obtain ⟨bs, rr⟩ := Sub.has (F0 := F0) r s2 e
    cases rr with
    | @t a vs _ cs h1 h4 =>
      obtain ⟨x, ex⟩ := h4.nth (F0 := F0) hlt
      refine ⟨a, vs, k, x, rfl, rfl, SqT.of h1, ?_, q v x F2 H2 (g1.trans g2) e1 (Sub.snocT h1 ex s2)⟩
      unfold atI
      rw [h4.length, hj]
      exact ex
/-- the list at a place, and how it is written -/
theorem Sta.at2 {F0 F : Fz} {H0 H : Hp} {σ : L2.St} (S : Sta K F0 H0 δ σ F H) (h : δ[i]? = some (.tr t)) {v w : V} (e1 : σ[i]? = some (some v)) (s : Sub H v p w) (e : t.get p = some (.l us)) :
    ∃ a vs cs, w = .ref a ∧ H a = some (.lst vs) ∧ TrRs K F H H0 us vs cs ∧ ¬ F a ∧ cs.Nodup ∧ a ∉ cs ∧ ∀ us' vs' cs', TrRs K F (upd H a (.lst vs')) H0 us' vs' cs' → cs'.Nodup → (∀ c ∈ cs', c ∈ cs) → Sta K F0 H0 (δ.set i (.tr (t.put p (.l us')))) σ F (upd H a (.lst vs')) ∧ Le F H F (upd H a (.lst vs')) := by
  obtain ⟨v', as, e2, r, nd, wr⟩ := S.tr h
  rw [e1] at e2
  cases e2
  obtain ⟨a, vs, cs, q1, q2, q3, q4, q5, q6, q7, q8, q9⟩ := TrR.place p r nd s e
  refine ⟨a, vs, cs, q1, q2, q3, q4, q5, q6, fun us' vs' cs' r' n3 sub => ?_⟩
  obtain ⟨as1, z1, z2, z3⟩ := q9 us' vs' cs' r' n3 sub
  have l : Le F H F (upd H a (.lst vs')) := Le.mut q4 q2 trivial
  exact ⟨wr _ _ as1 l (fun b hb => upd_ne fun z => hb (z ▸ q7)) z1 z2 z3, l⟩
/-- what stays beside a list that is written -/
theorem TrRs.mut {F : Fz} {H H0 : Hp} {a : Addr} {vs vs' : List V} {cs : List Addr} {ws : List V} (r : TrRs K F H H0 us ws cs) (nf : ¬ F a) (e : H a = some (.lst vs)) (na : a ∉ cs) : TrRs K F (upd H a (.lst vs')) H0 us ws cs :=
  r.le (Le.mut nf e trivial) _ fun b hb => ⟨upd_ne fun z => na (z ▸ hb), (r.at_ _ b hb).2.1⟩
/-- place.append(e) -/
theorem s_appP (h : δ[i]? = some (.tr t)) (hp : Pl K δ te i p) (e : t.get p = some (.l us)) (he : Ev K δ tb d) (hz : us.length < 100000) (k : D'.nx (δ.set i (.tr (t.put p (.l (us ++ [.d d])))))) : SD K B (tDrop (tBM K "list" rAppend te (tCons tb tNil))) δ D' := fun σ F H Dn S L =>
  hp _ _ σ F H S _ fun v w F1 H1 g1 e1 s1 => by
    obtain ⟨a, vs, cs, rfl, h2, h3, _⟩ := (S.go g1).at2 h e1 s1 e
    refine ⟨.inl ⟨rfl, vs, SqL.of h2⟩, he _ _ σ F1 H1 (S.go g1) _ fun u F2 H2 g2 r2 => ?_⟩
    obtain ⟨a2, vs2, cs2, f1, f2, f3, f4, f5, f6, wr⟩ := ((S.go g1).go g2).at2 h e1 (s1.keep g2.keep) e
    cases f1
    have l : Le F2 H2 F2 (upd H2 a (.lst (vs2 ++ [u]))) := Le.mut f4 f2 trivial
    obtain ⟨S3, l3⟩ := wr (us ++ [.d d]) (vs2 ++ [u]) (cs2 ++ ([] ++ [])) ((f3.mut f4 f2 f6).append (.cons (.d (DV.le l _ _ r2)) .nil)) (by simpa using f5) (fun c hc => by simpa using hc)
    exact ⟨a, vs2, u, rfl, rfl, f2, by rw [f3.length]; exact sz5l hz, L.nx _ _ F2 _ k S3 ((g1.le.trans g2.le).trans l3)⟩
end
end L3
set_option Elab.async false
set_option linter.all false
set_option maxRecDepth 100000
set_option maxHeartbeats 4000000
/-! enumerate and zip over lists and tuples, mixed: b says tuple. -/
namespace Sq
open PySem PySem.Spec PyProof.Rows L2
open PySem.Sem (wp)
def Seq (b : Bool) (h : Heap) (l : Addr) (xs : Array Value) : Prop := cond b (h.IsTuple l xs) (h.IsList l xs)
def Itr (b : Bool) (h : Heap) (t l : Addr) (i : Nat) : Prop := cond b (h.IsTupleIter t l i) (h.IsListIter t l i)
def itc (b : Bool) : String := cond b "tuple_iterator" "list_iterator"
abbrev ito (b : Bool) (l : Addr) : Obj := { cls := .type (itc b), data := .fields #[.ref l, .int 0 0] }
section
variable {b : Bool} {h h' : Heap} {a t l c : Addr} {i : Nat} {xs : Array Value}
theorem Seq.far (x : Seq b h l xs) (e : Heap.ExtBut a h h') (n : l ≠ a) : Seq b h' l xs := by
  cases b
  · exact Heap.IsList.extBut x e n
  · exact Heap.IsTuple.extBut x e n
theorem Itr.far (x : Itr b h t l i) (e : Heap.ExtBut a h h') (n : t ≠ a) : Itr b h' t l i := by
  cases b
  · exact Heap.IsListIter.extBut x e n
  · exact Heap.IsTupleIter.extBut x e n
theorem Itr.at (x : Itr b h t l i) (e : ∀ o, h.get? t = some o → h'.get? t = some o) : Itr b h' t l i := by
  cases b
  · exact Heap.IsListIter.at x e
  · exact Heap.IsTupleIter.at x e
theorem Itr.obj (x : Itr b h t l i) : ∃ o, h.get? t = some o ∧ ∃ r, o.data = .fields r := by
  cases b
  · obtain ⟨o, e, _, d⟩ := x
    exact ⟨o, e, _, d⟩
  · obtain ⟨o, e, _, d⟩ := x
    exact ⟨o, e, _, d⟩
theorem Itr.lt (x : Itr b h t l i) : t < h.objs.size := by
  obtain ⟨o, e, _⟩ := x.obj
  exact Heap.lt_size e
theorem Seq.lt (x : Seq b h l xs) : l < h.objs.size := by
  cases b
  · obtain ⟨o, e, _⟩ := x
    exact Heap.lt_size e
  · obtain ⟨o, e, _⟩ := x
    exact Heap.lt_size e
theorem Itr.start (e : h.get? t = some (ito b l)) : Itr b h t l 0 := by
  cases b
  · exact ⟨_, e, rfl, rfl⟩
  · exact ⟨_, e, rfl, rfl⟩
end
section
variable {prog : Program} {w : World} {A : Around} {E : Value → Shared → Prop} {s : Shared} {b : Bool} {t l : Addr} {i : Nat} {xs : Array Value} {x : Value} {Q : Value → Shared → Prop}
theorem nx_item (it : Itr b s.heap t l i) (sq : Seq b s.heap l xs) (hx : xs[i]? = some x) (k : ∀ h', Itr b h' t l (i + 1) → Heap.SameBut t s.heap h' → Q x { s with heap := h' }) : wpAny (model prog w) A (Builtin.SmallTypes.nextOf (.ref t)) Q E s := by
  cases b
  · exact wpAny_nextOf_list_item it sq hx k
  · exact RZ.nextOf_tuple_item it sq hx k
theorem nx_end (hh : A.handled = none) (it : Itr b s.heap t l i) (sq : Seq b s.heap l xs) (hx : xs[i]? = none) (k : ∀ h' e, Heap.ExtBut t s.heap h' → (∃ o, h'.get? e = some o ∧ o.cls = .type "StopIteration") → E (.ref e) { s with heap := h' }) : wpAny (model prog w) A (Builtin.SmallTypes.nextOf (.ref t)) Q E s := by
  cases b
  · exact wpAny_nextOf_list_end hh it sq hx k
  · exact RZ.nextOf_tuple_end hh it sq hx k
theorem it_new (sq : Seq b s.heap l xs) (k : Q (.ref s.heap.objs.size) { s with heap := s.heap.push (ito b l) }) : wpAny (model prog w) A (pyIter (.ref l)) Q E s := by
  cases b
  · exact wpAny_pyIter_list sq k
  · exact wpAny_pyIter_tuple sq k
/-! ### enumerate -/
section
variable {e : Addr} {old : Value}
theorem en_item (he : IsEnum s.heap e t i old) (it : Itr b s.heap t l i) (sq : Seq b s.heap l xs) (hx : xs[i]? = some x) (ne : e ≠ t)
    (k : ∀ h', IsEnumOut h' e t ((i : Int) + 1) x s.heap.objs.size → Itr b h' t l (i + 1) → h'.get? s.heap.objs.size = some { cls := .type "tuple", data := .seq #[.int i s.toks, x] } → h'.objs.size = s.heap.objs.size + 1 →
      (∀ c o, c ≠ e → c ≠ t → s.heap.get? c = some o → h'.get? c = some o) → Q (.ref s.heap.objs.size) { s with heap := h', toks := s.toks + 1 }) :
    wpAny (model prog w) A (Builtin.«enumerate.__next__» ⟨[.ref e], []⟩) (fun fin s' => ∃ v, fin = .done (.ret v) ∧ Q v s') E s := by
  obtain ⟨hp, g, d, tk, os⟩ := s
  show wpAny _ _ (field (.ref e) 2 >>= _) _ _ _
  refine wpAny_bind (wpAny_field he rfl (x := .ref t) rfl (wpAny_bind (nx_item it sq hx fun h1 it1 s1 => ?_)))
  replace s1 : Heap.SameBut t hp h1 := s1
  have e1 : IsEnum h1 e t i old := (s1.2 e ne).trans he
  show wpAny _ _ (field (.ref e) 3 >>= _) _ _ ⟨h1, g, d, tk, os⟩
  refine wpAny_bind (wpAny_field e1 rfl (x := rawInt i) rfl ?_)
  show wpAny _ _ (field (.ref e) 4 >>= _) _ _ ⟨h1, g, d, tk, os⟩
  refine wpAny_bind (wpAny_field e1 rfl (x := .none) rfl ?_)
  show wpAny _ _ (mkInt i >>= _) _ _ ⟨h1, g, d, tk, os⟩
  refine wpAny_bind (wpAny_mkInt ?_)
  show wpAny _ _ (setField (.ref e) 3 (rawInt ((i : Int) + 1)) >>= _) _ _ ⟨h1, g, d, tk + 1, os⟩
  refine wpAny_bind (wpAny_setField_rec e1 (by simp) fun h2 e2 s2 => ?_)
  replace s2 : Heap.SameBut e h1 h2 := s2
  replace e2 : IsEnum h2 e t ((i : Int) + 1) old := e2
  show wpAny _ _ (setField (.ref e) 4 .none >>= _) _ _ ⟨h2, g, d, tk + 1, os⟩
  refine wpAny_bind (wpAny_setField_rec e2 (by simp) fun h3 e3 s3 => ?_)
  replace s3 : Heap.SameBut e h2 h3 := s3
  replace e3 : IsEnum h3 e t ((i : Int) + 1) old := e3
  show wpAny _ _ (newTuple [.int i tk, x] >>= _) _ _ ⟨h3, g, d, tk + 1, os⟩
  refine wpAny_bind (wpAny_newTuple ?_)
  have e4 : IsEnum (h3.push { cls := .type "tuple", data := .seq #[.int i tk, x] }) e t ((i : Int) + 1) old := Heap.get?_push_of_some _ e3
  generalize q4 : h3.push { cls := .type "tuple", data := .seq #[.int i tk, x] } = h4 at e4
  have z3 : h3.objs.size = hp.objs.size := by rw [s3.1, s2.1, s1.1]
  have el : e < hp.objs.size := Heap.lt_size he
  have t4 : h4.get? hp.objs.size = some { cls := .type "tuple", data := .seq #[.int i tk, x] } := by
    rw [← q4, ← z3]
    exact Heap.get?_push_size _ rfl
  have z4 : h4.objs.size = hp.objs.size + 1 := by rw [← q4, Heap.size_push, z3]
  have k4 : ∀ c o, c ≠ e → c ≠ t → hp.get? c = some o → h4.get? c = some o := fun c o c1 c2 q => by
    rw [← q4]
    exact Heap.get?_push_of_some _ (s3.extBut c o c1 (s2.extBut c o c1 (s1.extBut c o c2 q)))
  have it4 : Itr b h4 t l (i + 1) := ((it1.far s2.extBut ne.symm).far s3.extBut ne.symm).at fun o q => by
    rw [← q4]
    exact Heap.get?_push_of_some _ q
  show wpAny _ _ (Builtin.SmallTypes.ownedTupleIsFree (.ref e) >>= _) _ _ ⟨h4, g, d, tk + 1, os⟩
  rw [z3]
  clear q4 e3 s3 e2 s2 e1 s1 it1 z3 h3 h2 h1
  refine wpAny_bind ?_
  unfold Builtin.SmallTypes.ownedTupleIsFree
  refine wpAny_bind (wpAny_field e4 rfl (x := .none) rfl (wpAny_pure ?_))
  simp only [if_true]
  refine wpAny_bind (wpAny_rule (wpAny_bind (wpAny_field e4 rfl (x := old) rfl (wpAny_bind (wpAny_setField_rec e4 (by simp) fun h5 e5 s5 => ?_)))))
  replace s5 : Heap.SameBut e h4 h5 := s5
  replace e5 : IsEnum h5 e t ((i : Int) + 1) x := e5
  show wpAny _ _ (Builtin.SmallTypes.ownedTupleHandOut (.ref e) (.ref hp.objs.size) >>= _) _ _ ⟨h5, g, d, tk + 1, os⟩
  refine wpAny_bind ?_
  unfold Builtin.SmallTypes.ownedTupleHandOut
  refine wpAny_bind (wpAny_setField_rec e5 (by simp) fun h6 e6 s6 => ?_)
  replace s6 : Heap.SameBut e h5 h6 := s6
  replace e6 : IsEnumOut h6 e t ((i : Int) + 1) x hp.objs.size := e6
  refine wpAny_setField_rec e6 (by simp) fun h7 e7 s7 => ?_
  replace s7 : Heap.SameBut e h6 h7 := s7
  replace e7 : IsEnumOut h7 e t ((i : Int) + 1) x hp.objs.size := e7
  have up : ∀ c o, c ≠ e → h4.get? c = some o → h7.get? c = some o := fun c o c1 q => s7.extBut c o c1 (s6.extBut c o c1 (s5.extBut c o c1 q))
  exact wpAny_bind (wpAny_letGo (wpAny_pure ⟨_, rfl, k h7 e7 (it4.at fun o q => up t o ne.symm q) (up _ _ (Nat.ne_of_gt el) t4) (by rw [s7.1, s6.1, s5.1, z4]) fun c o c1 c2 q => up c o c1 (k4 c o c1 c2 q)⟩))
variable {R : Option Value → Shared → Prop}
theorem en_next (he : IsEnum s.heap e t i old) (it : Itr b s.heap t l i) (sq : Seq b s.heap l xs) (hx : xs[i]? = some x) (ne : e ≠ t)
    (k : ∀ h', IsEnumOut h' e t ((i : Int) + 1) x s.heap.objs.size → Itr b h' t l (i + 1) → h'.get? s.heap.objs.size = some { cls := .type "tuple", data := .seq #[.int i s.toks, x] } → h'.objs.size = s.heap.objs.size + 1 →
      (∀ c o, c ≠ e → c ≠ t → s.heap.get? c = some o → h'.get? c = some o) → R (some (.ref s.heap.objs.size)) { s with heap := h', toks := s.toks + 1 }) : wpAny (model prog w) A (pyNext (.ref e)) R E s := by
  have ty : s.TypeIs (.ref e) "enumerate" := ⟨_, he, rfl⟩
  exact wpAny_bind (wpAny_attempt (wpAny_callSpecial?_slot (name := Str.ofString "__next__") ty F.slot_enumerate_next (wpAny_call_entry F.slot_enumerate_next ty F.entry_enumerate_next
    (en_item he it sq hx ne fun h' a1 a2 a3 a4 a5 => wpAny_pure (k h' a1 a2 a3 a4 a5)) (F.args_enumerate_next_1 _))))
theorem en_stop (hh : A.handled = none) (he : IsEnum s.heap e t i old) (it : Itr b s.heap t l i) (sq : Seq b s.heap l xs) (hx : xs[i]? = none) (k : ∀ h', Heap.ExtBut t s.heap h' → R none { s with heap := h' }) : wpAny (model prog w) A (pyNext (.ref e)) R E s := by
  have ty : s.TypeIs (.ref e) "enumerate" := ⟨_, he, rfl⟩
  refine wpAny_bind (wpAny_attempt (wpAny_callSpecial?_slot (name := Str.ofString "__next__") ty F.slot_enumerate_next (wpAny_call_entry F.slot_enumerate_next ty F.entry_enumerate_next ?_ (F.args_enumerate_next_1 _))))
  show wpAny _ _ (field (.ref e) 2 >>= _) _ _ _
  refine wpAny_bind (wpAny_field he rfl (x := .ref t) rfl (wpAny_bind (nx_end hh it sq hx fun h' x q ⟨o, ho, hc⟩ => ?_)))
  exact wpAny_bind (wpAny_isInstance (T := "StopIteration") (b := true) ⟨o, ho, hc⟩ isSubtype_stop (wpAny_pure (k _ q)))
end
/-! ### zip -/
section
variable {z TI TO i1 i2 l1 l2 : Addr} {b1 b2 : Bool} {k1 k2 : Nat} {ys : Array Value} {y u v : Value}
theorem zp_item (D : ZipApart z TI TO i1 i2 l1 l2) (hz : IsZip s.heap z TI TO .none) (hI : IsPair s.heap TI (.ref i1) (.ref i2)) (hO : IsPair s.heap TO u v)
    (t1 : Itr b1 s.heap i1 l1 k1) (t2 : Itr b2 s.heap i2 l2 k2) (q1 : Seq b1 s.heap l1 xs) (q2 : Seq b2 s.heap l2 ys) (hx : xs[k1]? = some x) (hy : ys[k2]? = some y)
    (k : ∀ h', IsZip h' z TI TO (rawInt s.heap.objs.size) → IsPair h' TO x y → Itr b1 h' i1 l1 (k1 + 1) → Itr b2 h' i2 l2 (k2 + 1) → IsPair h' s.heap.objs.size x y → h'.objs.size = s.heap.objs.size + 1 →
      (∀ c o, c ≠ z → c ≠ TO → c ≠ i1 → c ≠ i2 → s.heap.get? c = some o → h'.get? c = some o) → Q (.ref s.heap.objs.size) { s with heap := h' }) :
    wpAny (model prog w) A (Builtin.«zip.__next__» ⟨[.ref z], []⟩) (fun fin s' => ∃ v, fin = .done (.ret v) ∧ Q v s') E s := by
  show wpAny _ _ (field (.ref z) 2 >>= _) _ _ _
  refine wpAny_bind (wpAny_field hz rfl (x := .bool false) rfl ?_)
  show wpAny _ _ (field (.ref z) 3 >>= _) _ _ _
  refine wpAny_bind (wpAny_field hz rfl (x := .ref TI) rfl (wpAny_bind (wpAny_seqItems hI rfl ?_)))
  show wpAny _ _ (Builtin.SmallTypes.ownedTupleIsFree (.ref z) >>= _) _ _ _
  refine wpAny_bind ?_
  unfold Builtin.SmallTypes.ownedTupleIsFree
  refine wpAny_bind (wpAny_field hz rfl (x := .none) rfl (wpAny_pure ?_))
  simp only [if_true]
  refine wpAny_bind (wpAny_rule (wpAny_bind (wpAny_field hz rfl (x := .ref TO) rfl (wpAny_bind (wpAny_setField_rec hz (by simp) fun h1 z1 s1 => ?_)))))
  replace z1 : IsZip h1 z TI TO .ellipsis := z1
  refine wpAny_bind ?_
  simp only [List.zipIdx_cons, List.zipIdx_nil, List.forIn_cons, List.forIn_nil]
  refine wpAny_bind (wpAny_bind (wpAny_onRaise ?_))
  show wpAny _ _ (Builtin.SmallTypes.nextOf (.ref i1) >>= _) _ _ _
  refine wpAny_bind (nx_item (t1.far s1.extBut D.i1z) (q1.far s1.extBut D.l1z) hx fun h2 t12 s2 => wpAny_pure ?_)
  have O2 : IsPair h2 TO u v := s2.extBut _ _ D.TOi1 (s1.extBut _ _ D.TOz hO)
  refine wpAny_bind (wpAny_seqItems O2 rfl (wpAny_bind (wpAny_updateSeq_pair O2 fun h3 O3 s3 => ?_)))
  replace O3 : IsPair h3 TO x v := O3
  refine wpAny_bind (wpAny_letGo (wpAny_pure (wpAny_bind (wpAny_bind (wpAny_onRaise ?_)))))
  show wpAny _ _ (Builtin.SmallTypes.nextOf (.ref i2) >>= _) _ _ _
  refine wpAny_bind (nx_item (((t2.far s1.extBut D.i2z).far s2.extBut D.i12.symm).far s3.extBut D.TOi2.symm) (((q2.far s1.extBut D.l2z).far s2.extBut D.l2i1).far s3.extBut D.l2TO) hy fun h4 t24 s4 => wpAny_pure ?_)
  have O4 : IsPair h4 TO x v := s4.extBut _ _ D.TOi2 O3
  refine wpAny_bind (wpAny_seqItems O4 rfl (wpAny_bind (wpAny_updateSeq_pair O4 fun h5 O5 s5 => ?_)))
  replace O5 : IsPair h5 TO x y := O5
  refine wpAny_bind (wpAny_letGo (wpAny_pure (wpAny_pure (wpAny_bind (wpAny_seqItems O5 rfl (wpAny_bind (wpAny_newTuple ?_)))))))
  have n5 : h5.objs.size = s.heap.objs.size := by rw [s5.1, s4.1, s3.1, s2.1, s1.1]
  have z5 : IsZip h5 z TI TO .ellipsis := s5.extBut _ _ D.TOz.symm (s4.extBut _ _ D.i2z.symm (s3.extBut _ _ D.TOz.symm (s2.extBut _ _ D.i1z.symm z1)))
  have k5 : ∀ c o, c ≠ z → c ≠ TO → c ≠ i1 → c ≠ i2 → s.heap.get? c = some o → h5.get? c = some o := fun c o c1 c2 c3 c4 q => s5.extBut _ _ c2 (s4.extBut _ _ c4 (s3.extBut _ _ c2 (s2.extBut _ _ c3 (s1.extBut _ _ c1 q))))
  have t15 : Itr b1 h5 i1 l1 (k1 + 1) := ((t12.far s3.extBut D.TOi1.symm).far s4.extBut D.i12).far s5.extBut D.TOi1.symm
  have t25 : Itr b2 h5 i2 l2 (k2 + 1) := t24.far s5.extBut D.TOi2.symm
  have lz : z < h5.objs.size := Heap.lt_size z5
  show wpAny _ _ (Builtin.SmallTypes.ownedTupleHandOut (.ref z) (.ref h5.objs.size) >>= _) _ _ _
  refine wpAny_bind ?_
  unfold Builtin.SmallTypes.ownedTupleHandOut
  have z6 : IsZip (h5.push { cls := .type "tuple", data := .seq #[x, y] }) z TI TO .ellipsis := Heap.get?_push_of_some _ z5
  refine wpAny_bind (wpAny_setField_rec z6 (by simp) fun h7 z7 s7 => ?_)
  replace z7 : IsZip h7 z TI TO (rawInt h5.objs.size) := z7
  refine wpAny_setField_rec z7 (by simp) fun h8 z8 s8 => ?_
  replace z8 : IsZip h8 z TI TO (rawInt h5.objs.size) := z8
  have up : ∀ c o, c ≠ z → h5.get? c = some o → h8.get? c = some o := fun c o c1 q => s8.extBut _ _ c1 (s7.extBut _ _ c1 (Heap.get?_push_of_some _ q))
  have T8 : IsPair h8 h5.objs.size x y := s8.extBut _ _ (Nat.ne_of_gt lz) (s7.extBut _ _ (Nat.ne_of_gt lz) (Heap.get?_push_size _ rfl))
  have n8 : h8.objs.size = h5.objs.size + 1 := by rw [s8.1, s7.1, Heap.size_push]
  rw [n5] at z8 T8 n8
  refine wpAny_pure ⟨_, rfl, ?_⟩
  show Q (.ref h5.objs.size) _
  rw [n5]
  exact k h8 z8 (up _ _ D.TOz O5) (t15.at fun o q => up _ o D.i1z q) (t25.at fun o q => up _ o D.i2z q) T8 n8 fun c o c1 c2 c3 c4 q => up c o c1 (k5 c o c1 c2 c3 c4 q)
theorem zp_end {Q : Fin → Shared → Prop} (hh : A.handled = none) (D : ZipApart z TI TO i1 i2 l1 l2) (hz : IsZip s.heap z TI TO .none) (hI : IsPair s.heap TI (.ref i1) (.ref i2)) (hO : IsPair s.heap TO u v)
    (t1 : Itr b1 s.heap i1 l1 k1) (t2 : Itr b2 s.heap i2 l2 k2) (q1 : Seq b1 s.heap l1 xs) (q2 : Seq b2 s.heap l2 ys) (hend : xs[k1]? = none ∨ ys[k2]? = none)
    (k : ∀ h' e, (∀ c o, c ≠ z → c ≠ TO → c ≠ i1 → c ≠ i2 → s.heap.get? c = some o → h'.get? c = some o) → (∃ o, h'.get? e = some o ∧ o.cls = .type "StopIteration") → E (.ref e) { s with heap := h' }) :
    wpAny (model prog w) A (Builtin.«zip.__next__» ⟨[.ref z], []⟩) Q E s := by
  show wpAny _ _ (field (.ref z) 2 >>= _) _ _ _
  refine wpAny_bind (wpAny_field hz rfl (x := .bool false) rfl ?_)
  show wpAny _ _ (field (.ref z) 3 >>= _) _ _ _
  refine wpAny_bind (wpAny_field hz rfl (x := .ref TI) rfl (wpAny_bind (wpAny_seqItems hI rfl ?_)))
  show wpAny _ _ (Builtin.SmallTypes.ownedTupleIsFree (.ref z) >>= _) _ _ _
  refine wpAny_bind ?_
  unfold Builtin.SmallTypes.ownedTupleIsFree
  refine wpAny_bind (wpAny_field hz rfl (x := .none) rfl (wpAny_pure ?_))
  simp only [if_true]
  refine wpAny_bind (wpAny_rule (wpAny_bind (wpAny_field hz rfl (x := .ref TO) rfl (wpAny_bind (wpAny_setField_rec hz (by simp) fun h1 z1 s1 => ?_)))))
  replace z1 : IsZip h1 z TI TO .ellipsis := z1
  refine wpAny_bind ?_
  simp only [List.zipIdx_cons, List.zipIdx_nil, List.forIn_cons, List.forIn_nil]
  refine wpAny_bind (wpAny_bind (wpAny_onRaise ?_))
  show wpAny _ _ (Builtin.SmallTypes.nextOf (.ref i1) >>= _) _ _ _
  cases hx : xs[k1]? with
  | none =>
    refine wpAny_bind (nx_end hh (t1.far s1.extBut D.i1z) (q1.far s1.extBut D.l1z) hx fun h2 e s2 ⟨oe, he, hc⟩ => ?_)
    have z2 : IsZip h2 z TI TO .ellipsis := s2 _ _ D.i1z.symm z1
    have ne : e ≠ z := fun x => by
      subst x
      rw [z2] at he
      cases he
      simp at hc
    exact wpAny_setField_rec z2 (by simp) fun h3 _ s3 => k h3 e (fun c o c1 _ c3 _ x => s3.extBut _ _ c1 (s2 _ _ c3 (s1.extBut _ _ c1 x))) ⟨oe, s3.extBut _ _ ne he, hc⟩
  | some x =>
    have hy : ys[k2]? = none := hend.resolve_left fun q => by rw [hx] at q; cases q
    refine wpAny_bind (nx_item (t1.far s1.extBut D.i1z) (q1.far s1.extBut D.l1z) hx fun h2 t12 s2 => wpAny_pure ?_)
    have O2 : IsPair h2 TO u v := s2.extBut _ _ D.TOi1 (s1.extBut _ _ D.TOz hO)
    refine wpAny_bind (wpAny_seqItems O2 rfl (wpAny_bind (wpAny_updateSeq_pair O2 fun h3 O3 s3 => ?_)))
    refine wpAny_bind (wpAny_letGo (wpAny_pure (wpAny_bind (wpAny_bind (wpAny_onRaise ?_)))))
    show wpAny _ _ (Builtin.SmallTypes.nextOf (.ref i2) >>= _) _ _ _
    refine wpAny_bind (nx_end hh (((t2.far s1.extBut D.i2z).far s2.extBut D.i12.symm).far s3.extBut D.TOi2.symm) (((q2.far s1.extBut D.l2z).far s2.extBut D.l2i1).far s3.extBut D.l2TO) hy fun h4 e s4 ⟨oe, he, hc⟩ => ?_)
    have z4 : IsZip h4 z TI TO .ellipsis := s4 _ _ D.i2z.symm (s3.extBut _ _ D.TOz.symm (s2.extBut _ _ D.i1z.symm z1))
    have ne : e ≠ z := fun x => by
      subst x
      rw [z4] at he
      cases he
      simp at hc
    exact wpAny_setField_rec z4 (by simp) fun h5 _ s5 => k h5 e (fun c o c1 c2 c3 c4 x => s5.extBut _ _ c1 (s4 _ _ c4 (s3.extBut _ _ c2 (s2.extBut _ _ c3 (s1.extBut _ _ c1 x))))) ⟨oe, s5.extBut _ _ ne he, hc⟩
variable {R : Option Value → Shared → Prop}
theorem zp_next (D : ZipApart z TI TO i1 i2 l1 l2) (hz : IsZip s.heap z TI TO .none) (hI : IsPair s.heap TI (.ref i1) (.ref i2)) (hO : IsPair s.heap TO u v)
    (t1 : Itr b1 s.heap i1 l1 k1) (t2 : Itr b2 s.heap i2 l2 k2) (q1 : Seq b1 s.heap l1 xs) (q2 : Seq b2 s.heap l2 ys) (hx : xs[k1]? = some x) (hy : ys[k2]? = some y)
    (k : ∀ h', IsZip h' z TI TO (rawInt s.heap.objs.size) → IsPair h' TO x y → Itr b1 h' i1 l1 (k1 + 1) → Itr b2 h' i2 l2 (k2 + 1) → IsPair h' s.heap.objs.size x y → h'.objs.size = s.heap.objs.size + 1 →
      (∀ c o, c ≠ z → c ≠ TO → c ≠ i1 → c ≠ i2 → s.heap.get? c = some o → h'.get? c = some o) → R (some (.ref s.heap.objs.size)) { s with heap := h' }) : wpAny (model prog w) A (pyNext (.ref z)) R E s := by
  have ty : s.TypeIs (.ref z) "zip" := ⟨_, hz, rfl⟩
  exact wpAny_bind (wpAny_attempt (wpAny_callSpecial?_slot (name := Str.ofString "__next__") ty F.slot_zip_next (wpAny_call_entry F.slot_zip_next ty F.entry_zip_next
    (zp_item D hz hI hO t1 t2 q1 q2 hx hy fun h' a1 a2 a3 a4 a5 a6 a7 => wpAny_pure (k h' a1 a2 a3 a4 a5 a6 a7)) (F.args_zip_next_1 _))))
theorem zp_stop (hh : A.handled = none) (D : ZipApart z TI TO i1 i2 l1 l2) (hz : IsZip s.heap z TI TO .none) (hI : IsPair s.heap TI (.ref i1) (.ref i2)) (hO : IsPair s.heap TO u v)
    (t1 : Itr b1 s.heap i1 l1 k1) (t2 : Itr b2 s.heap i2 l2 k2) (q1 : Seq b1 s.heap l1 xs) (q2 : Seq b2 s.heap l2 ys) (hend : xs[k1]? = none ∨ ys[k2]? = none)
    (k : ∀ h', (∀ c o, c ≠ z → c ≠ TO → c ≠ i1 → c ≠ i2 → s.heap.get? c = some o → h'.get? c = some o) → R none { s with heap := h' }) : wpAny (model prog w) A (pyNext (.ref z)) R E s := by
  have ty : s.TypeIs (.ref z) "zip" := ⟨_, hz, rfl⟩
  refine wpAny_bind (wpAny_attempt (wpAny_callSpecial?_slot (name := Str.ofString "__next__") ty F.slot_zip_next (wpAny_call_entry F.slot_zip_next ty F.entry_zip_next
    (zp_end hh D hz hI hO t1 t2 q1 q2 hend fun h' e hk ⟨o, ho, hc⟩ => ?_) (F.args_zip_next_1 _))))
  exact wpAny_bind (wpAny_isInstance (T := "StopIteration") (b := true) ⟨o, ho, hc⟩ isSubtype_stop (wpAny_pure (k _ hk)))
end
end
/-! ### making them -/
abbrev zo1 (b1 : Bool) (h : Heap) (l1 : Addr) : Heap := h.push (ito b1 l1)
abbrev zo2 (b1 b2 : Bool) (h : Heap) (l1 l2 : Addr) : Heap := (zo1 b1 h l1).push (ito b2 l2)
abbrev zo3 (b1 b2 : Bool) (h : Heap) (l1 l2 : Addr) : Heap := (zo2 b1 b2 h l1 l2).push { cls := .type "tuple", data := .seq #[.ref h.objs.size, .ref (zo1 b1 h l1).objs.size] }
abbrev zo4 (b1 b2 : Bool) (h : Heap) (l1 l2 : Addr) : Heap := (zo3 b1 b2 h l1 l2).push { cls := .type "tuple", data := .seq #[.none, .none] }
abbrev zo5 (b1 b2 : Bool) (h : Heap) (l1 l2 : Addr) : Heap := (zo4 b1 b2 h l1 l2).push { cls := .type "zip", data := .fields #[.none, .bool false, .bool false, .ref (zo2 b1 b2 h l1 l2).objs.size, .ref (zo3 b1 b2 h l1 l2).objs.size] }
theorem Seq.push {b : Bool} {h : Heap} {l : Addr} {xs : Array Value} (x : Seq b h l xs) (o : Obj) : Seq b (h.push o) l xs := by
  cases b
  · exact Heap.IsList.push x o
  · exact Heap.IsTuple.push x o
theorem zp_meets (b1 b2 : Bool) (l1 l2 : Addr) (xs ys : Array Value) :
    Meets (Builtin.«zip.__new__» ⟨[.type "zip", .ref l1, .ref l2], []⟩) (fun _ R s => Seq b1 s.heap l1 xs ∧ Seq b2 s.heap l2 ys ∧ R (.ok (.ret (.ref (zo4 b1 b2 s.heap l1 l2).objs.size))) { s with heap := zo5 b1 b2 s.heap l1 l2 }) :=
  .of_wp fun prog w A R s h => by
    obtain ⟨hp, g, d, tk, os⟩ := s
    obtain ⟨q1, q2, h⟩ := h
    have sub := sub_zip
    have L1 : Seq b1 (Shared.heap ⟨hp, g, d, tk, os⟩) l1 xs := q1
    have L2 : Seq b2 (Shared.heap ⟨hp.push (ito b1 l1), g, d, tk, os⟩) l2 ys := q2.push _
    wp_walk using it_new L1, it_new L2
    exact ⟨_, rfl, h⟩
theorem en_meets (b : Bool) (l : Addr) (xs : Array Value) (o : Obj) :
    Meets (Builtin.«enumerate.__new__» ⟨[.type "enumerate", .ref l], []⟩) (fun _ R s => s.heap.get? l = some o ∧ Seq b s.heap l xs ∧
      R (.ok (.ret (.ref (s.heap.push (ito b l)).objs.size))) { s with heap := (s.heap.push (ito b l)).push { cls := .type "enumerate", data := .fields #[.none, .bool false, .ref s.heap.objs.size, rawInt 0, .none, .none] } }) :=
  .of_wp fun prog w A R s h => by
    obtain ⟨hp, g, d, tk, os⟩ := s
    obtain ⟨hl, q, h⟩ := h
    have sub := sub_enumerate
    have L1 : Seq b (Shared.heap ⟨hp, g, d, tk, os⟩) l xs := q
    wp_walk using PySem.AutoSeq1.wpAny_loadPart' hl
    refine wpAny_stack_any fun st => wpAny_pure ?_
    split
    · rename_i c _ _ _ _ _
      cases (c == Value.type "enumerate") <;> (wp_walk using PySem.AutoSeq1.wpAny_loadPart' hl, it_new L1; exact ⟨_, rfl, h⟩)
    · wp_walk using PySem.AutoSeq1.wpAny_loadPart' hl, it_new L1
      exact ⟨_, rfl, h⟩
end Sq
set_option Elab.async false
set_option linter.all false
set_option maxRecDepth 100000
set_option maxHeartbeats 4000000
/-! enumerate and zip over lists and tuples: made, walked, over data. -/
namespace Sq
open PySem PySem.Spec PyProof.Rows L2
section
variable {prog : Program} {w : World} {A : Around} {E : Value → Shared → Prop} {s : Shared} {b b1 b2 : Bool} {l l1 l2 : Addr} {xs ys : Array Value} {Q : Value → Shared → Prop}
theorem en_call (q : Seq b s.heap l xs) (k : ∀ h', IsEnum h' (s.heap.objs.size + 1) s.heap.objs.size 0 .none → Itr b h' s.heap.objs.size l 0 → h'.objs.size = s.heap.objs.size + 2 → (∀ c o, s.heap.get? c = some o → h'.get? c = some o) → Q (.ref (s.heap.objs.size + 1)) { s with heap := h' }) :
    wpAny (model prog w) A (call (.type "enumerate") [.ref l]) Q E s := by
  obtain ⟨o, ho⟩ : ∃ o, s.heap.get? l = some o := by
    cases b
    · obtain ⟨o, e, _⟩ := q
      exact ⟨o, e⟩
    · obtain ⟨o, e, _⟩ := q
      exact ⟨o, e⟩
  refine callType_new F.called_enumerate (by decide) (F.typeCall_enumerate_1 _) (F.newCall_enumerate_1 _) (fun obj => F.args_object_init_2 obj _) F.entry_enumerate_new (en_meets b l xs o) ⟨ho, q, ?_⟩
  have n1 : (s.heap.push (ito b l)).objs.size = s.heap.objs.size + 1 := Heap.size_push ..
  have e1 : ((s.heap.push (ito b l)).push { cls := .type "enumerate", data := .fields #[.none, .bool false, .ref s.heap.objs.size, rawInt 0, .none, .none] }).get? (s.heap.objs.size + 1) = some { cls := .type "enumerate", data := .fields #[.none, .bool false, .ref s.heap.objs.size, rawInt 0, .none, .none] } := by
    rw [← n1]
    exact Heap.get?_push_size _ rfl
  show _ ∧ _
  rw [n1]
  exact ⟨⟨_, e1, rfl⟩, k _ e1 (.start (Heap.get?_push_of_some _ (Heap.get?_push_size _ (by cases b <;> rfl)))) (by rw [Heap.size_push, n1]) fun c o x => Heap.get?_push_of_some _ (Heap.get?_push_of_some _ x)⟩
theorem zp_call (q1 : Seq b1 s.heap l1 xs) (q2 : Seq b2 s.heap l2 ys)
    (k : ∀ h', IsZip h' (s.heap.objs.size + 4) (s.heap.objs.size + 2) (s.heap.objs.size + 3) .none → IsPair h' (s.heap.objs.size + 2) (.ref s.heap.objs.size) (.ref (s.heap.objs.size + 1)) → IsPair h' (s.heap.objs.size + 3) .none .none →
      Itr b1 h' s.heap.objs.size l1 0 → Itr b2 h' (s.heap.objs.size + 1) l2 0 → h'.objs.size = s.heap.objs.size + 5 → (∀ c o, s.heap.get? c = some o → h'.get? c = some o) → Q (.ref (s.heap.objs.size + 4)) { s with heap := h' }) :
    wpAny (model prog w) A (call (.type "zip") [.ref l1, .ref l2]) Q E s := by
  refine callType_new F.called_zip (by decide) (F.typeCall_zip_2 _ _) (F.newCall_zip_2 _ _) (fun obj => F.args_object_init_3 obj _ _) F.entry_zip_new (zp_meets b1 b2 l1 l2 xs ys) ⟨q1, q2, ?_⟩
  have n1 : (zo1 b1 s.heap l1).objs.size = s.heap.objs.size + 1 := Heap.size_push ..
  have n2 : (zo2 b1 b2 s.heap l1 l2).objs.size = s.heap.objs.size + 2 := by rw [Heap.size_push, n1]
  have n3 : (zo3 b1 b2 s.heap l1 l2).objs.size = s.heap.objs.size + 3 := by rw [Heap.size_push, n2]
  have n4 : (zo4 b1 b2 s.heap l1 l2).objs.size = s.heap.objs.size + 4 := by rw [Heap.size_push, n3]
  have n5 : (zo5 b1 b2 s.heap l1 l2).objs.size = s.heap.objs.size + 5 := by rw [Heap.size_push, n4]
  have up : ∀ {h : Heap} {c : Addr} {o o' : Obj}, h.get? c = some o → (h.push o').get? c = some o := fun x => Heap.get?_push_of_some _ x
  have e5 : (zo5 b1 b2 s.heap l1 l2).get? (zo4 b1 b2 s.heap l1 l2).objs.size = some _ := Heap.get?_push_size _ rfl
  have e4 : (zo5 b1 b2 s.heap l1 l2).get? (zo3 b1 b2 s.heap l1 l2).objs.size = some _ := up (Heap.get?_push_size _ rfl)
  have e3 : (zo5 b1 b2 s.heap l1 l2).get? (zo2 b1 b2 s.heap l1 l2).objs.size = some _ := up (up (Heap.get?_push_size _ rfl))
  have e2 : (zo5 b1 b2 s.heap l1 l2).get? (zo1 b1 s.heap l1).objs.size = some (ito b2 l2) := up (up (up (Heap.get?_push_size _ (by cases b2 <;> rfl))))
  have e1 : (zo5 b1 b2 s.heap l1 l2).get? s.heap.objs.size = some (ito b1 l1) := up (up (up (up (Heap.get?_push_size _ (by cases b1 <;> rfl)))))
  show _ ∧ _
  rw [n2, n3, n4] at e5
  rw [n1, n2] at e3
  rw [n3] at e4
  rw [n1] at e2
  rw [n4]
  exact ⟨⟨_, e5, rfl⟩, k _ e5 e3 e4 (.start e1) (.start e2) n5 fun c o x => up (up (up (up (up x))))⟩
end
/-! ### walks -/
/-- a list's or a tuple's items, as the walk knows them -/
def SqB (b : Bool) (K : PySem.W.Frag) (H : Hp) (a : Addr) (xs : List V) : Prop := cond b (SqT K H a xs) (SqL K H a xs)
theorem sqb {b : Bool} {X : Cx} {pins : List (Addr × Obj)} {σ : L2.St} {H : Hp} {s : Shared} {a : Addr} {xs : List V} (I : Inv X pins σ H s) (q : SqB b X.K H a xs) : ∃ its : List Value, Vals xs its ∧ Seq b s.heap a its.toArray := by
  cases b
  · obtain ⟨its, r, p, _⟩ := I.list q
    exact ⟨its, r, p.isList⟩
  · obtain ⟨its, r, p, _⟩ := I.tuple q
    exact ⟨its, r, p⟩
theorem sqb_inj {b : Bool} {X : Cx} {pins : List (Addr × Obj)} {σ : L2.St} {H : Hp} {s : Shared} {a : Addr} {xs ys : List V} (I : Inv X pins σ H s) (q : SqB b X.K H a xs) (q' : SqB b X.K H a ys) : xs = ys := by
  cases b
  · exact I.list_inj q q'
  · exact I.tuple_inj q q'
def ItE (b : Bool) (K : PySem.W.Frag) (a : Addr) : It :=
  ⟨fun i H => ∃ (xs : List V) (x : V), SqB b K H a xs ∧ xs[i]? = some x, fun i H v H' => ∃ T x, v = .ref T ∧ H T = none ∧ H' = upd H T (.tup [.int (i : Nat), x]) ∧ ∀ xs, SqB b K H a xs → xs[i]? = some x, fun i H => ∃ xs : List V, SqB b K H a xs ∧ xs.length ≤ i⟩
theorem turn_en {P : Program} {w : World} {K : PySem.W.Frag} {b : Bool} {elts : List Expr} {kk : Nat} {tpos : Pos} (a e t : Addr) :
    Turn P w K (.Tuple elts kk tpos) (ItE b K a) [e, t] e (fun i h => (∃ old, IsEnum h e t ((i : Nat) : Int) old) ∧ Itr b h t a i ∧ e ≠ t) where
  mem := List.mem_cons_self
  obj := fun i h st c hc => by
    obtain ⟨⟨old, he⟩, it, _⟩ := st
    have e' : c = e ∨ c = t := by simpa using hc
    rcases e' with rfl | rfl
    · exact ⟨_, he, fun v q => nomatch q⟩
    · obtain ⟨o, ho, r, hd⟩ := it.obj
      exact ⟨o, ho, fun v q => by rw [hd] at q; cases q⟩
  keep := fun i h h' st k => let ⟨⟨old, he⟩, it, ne⟩ := st; ⟨⟨old, k e (by simp) _ he⟩, it.at fun o q => k t (by simp) o q, ne⟩
  item := by
    intro X hP hw hK hc i pins s σ H E I hf st hg
    subst hP hw hK
    obtain ⟨⟨old, he⟩, it, ne⟩ := st
    obtain ⟨xs, x, hq, hx⟩ := hg
    obtain ⟨its, rv, p⟩ := sqb I hq
    obtain ⟨u, hu, ru⟩ := rv.get hx
    have el : e < s.heap.objs.size := Heap.lt_size he
    refine en_next he it p (x := u) (by simpa using hu) ne fun h1 ho it1 hT hsz hk => ⟨_, rfl, wpAny_letOwnedTupleGo_enum (s := { s with heap := h1, toks := s.toks + 1 }) ho fun h2 he2 sb => ?_⟩
    have T2 : h2.get? s.heap.objs.size = some { cls := .type "tuple", data := .seq #[.int i s.toks, u] } := (sb.2 _ (Nat.ne_of_gt el)).trans hT
    have nw : ObjOk X.prog X.w (upd H s.heap.objs.size (.tup [.int (i : Nat), x])) h2 s.heap.objs.size (.tup [.int (i : Nat), x]) := ⟨by show 2 ≤ sizeLine; decide, [.int i s.toks, u], .cons ⟨_, rfl⟩ (.cons ru .nil), ⟨_, T2, rfl, _, rfl⟩⟩
    have I2 : Inv X pins σ (upd H s.heap.objs.size (.tup [.int (i : Nat), x])) { s with heap := h2, toks := s.toks + 1 } :=
      I.turnedNew (ch := [e, t]) (fun c o hb q => (sb.2 c (fun z => hb (by simp [z]))).trans (hk c o (fun z => hb (by simp [z])) (fun z => hb (by simp [z])) q)) hf (Nat.le_refl _) nw
    refine ⟨.ref s.heap.objs.size, _, I2, rfl, ⟨_, x, rfl, I.hok.fresh (Nat.le_refl _), rfl, fun l hl => by rw [sqb_inj I hl hq]; exact hx⟩, ⟨⟨_, he2⟩, it1.at fun o q => (sb.2 _ ne.symm).trans q, ne⟩, fun c hcm => ?_⟩
    have lt : c < s.heap.objs.size := by
      have e' : c = e ∨ c = t := by simpa using hcm
      rcases e' with rfl | rfl
      · exact el
      · exact it.lt
    rw [upd_ne (Nat.ne_of_lt lt)]
    exact (hf c hcm).1
  done := by
    intro X hP hw hK hc i pins s σ H E I hf st hg
    subst hP hw hK
    obtain ⟨⟨old, he⟩, it, ne⟩ := st
    obtain ⟨xs, hq, hx⟩ := hg
    obtain ⟨its, rv, p⟩ := sqb I hq
    obtain ⟨f0, f1, f2, f3, f4, f5⟩ := hf t (by simp)
    have hl := rv.length
    exact en_stop (I.ok.hd hc) he it p (by simp; omega) fun h' eb => ⟨rfl, I.turned (t' := s.toks) (fun c o hb q => eb c o hb q) f0 f1 f3 f4 f5⟩
  self := fun A i s Q E st h => let ⟨⟨_, he⟩, _⟩ := st; wpAny_pyIter_enum he h
def iEn (b : Bool) (K : PySem.W.Frag) (ta : TA) : TI := fun σ H R => ta σ H fun vs H1 => ∃ a xs, vs = [.ref a] ∧ SqB b K H1 a xs ∧ R (ItE b K a) H1
theorem pi_en {X : Cx} {K : PySem.W.Frag} (b : Bool) {e : Expr} {ta : TA} {p pos tpos : Pos} {elts : List Expr} {kk : Nat} (hK : X.K = K) (hg : Gl X "enumerate") (hm : X.mg "enumerate" = none) (ha : PA X [e] ta) (hs : starEach [e] X.env = [(false, eval e X.env)] := by rfl) :
    PI X (.Tuple elts kk tpos) (.Call (.Name "enumerate" p) [e] [] pos) (iEn b K ta) := by
  subst hK
  refine ⟨fun pins s σ H R I h => Call_ (ld_blt I hg hm boot_enumerate (PyProof.Rows.callWith_type1 (thn (ha.run pos pins s σ H _ I h) fun us s1 ⟨vs, H1, I1, r1, a, xs, ex, hq, q⟩ => ?_) hs rfl))⟩
  subst ex
  cases r1 with
  | cons r rr =>
    cases rr
    cases r
    obtain ⟨its, rv, p'⟩ := sqb I1 hq
    refine en_call p' fun h' he it hsz hk => wpAny_pyIter_enum he ?_
    refine ⟨s1.heap.objs.size + 1, [s1.heap.objs.size + 1, s1.heap.objs.size], _, _, H1, rfl, I1.kept (t' := s1.toks) hk, turn_en a (s1.heap.objs.size + 1) s1.heap.objs.size, ⟨⟨.none, he⟩, it, Nat.succ_ne_self _⟩, fun c hb => ?_, q⟩
    have hle : s1.heap.objs.size ≤ c := by
      have e' : c = s1.heap.objs.size + 1 ∨ c = s1.heap.objs.size := by simpa using hb
      rcases e' with z | z <;> (rw [z]; first | exact Nat.le_add_right _ _ | exact Nat.le_refl _)
    exact I1.fpOk hle (I1.hok.fresh hle)
def ItZ (b1 b2 : Bool) (K : PySem.W.Frag) (a b : Addr) : It :=
  ⟨fun i H => ∃ (xs ys : List V) (x y : V), SqB b1 K H a xs ∧ SqB b2 K H b ys ∧ xs[i]? = some x ∧ ys[i]? = some y,
    fun i H v H' => ∃ T x y, v = .ref T ∧ H T = none ∧ H' = upd H T (.tup [x, y]) ∧ (∀ xs, SqB b1 K H a xs → xs[i]? = some x) ∧ ∀ ys, SqB b2 K H b ys → ys[i]? = some y,
    fun i H => ∃ xs ys : List V, SqB b1 K H a xs ∧ SqB b2 K H b ys ∧ (xs.length ≤ i ∨ ys.length ≤ i)⟩
theorem turn_zp {P : Program} {w : World} {K : PySem.W.Frag} {b1 b2 : Bool} {elts : List Expr} {kk : Nat} {tpos : Pos} {a b z TI TO i1 i2 : Addr} (D : ZipApart z TI TO i1 i2 a b) :
    Turn P w K (.Tuple elts kk tpos) (ItZ b1 b2 K a b) [z, TI, TO, i1, i2] z (fun i h => IsZip h z TI TO .none ∧ IsPair h TI (.ref i1) (.ref i2) ∧ (∃ x y, IsPair h TO x y) ∧ Itr b1 h i1 a i ∧ Itr b2 h i2 b i) where
  mem := List.mem_cons_self
  obj := fun i h st c hc => by
    obtain ⟨hz, hI, ⟨x, y, hO⟩, t1, t2⟩ := st
    have e' : c = z ∨ c = TI ∨ c = TO ∨ c = i1 ∨ c = i2 := by simpa using hc
    rcases e' with rfl | rfl | rfl | rfl | rfl
    · exact ⟨_, hz, fun v q => nomatch q⟩
    · exact ⟨_, hI, fun v q => nomatch q⟩
    · exact ⟨_, hO, fun v q => nomatch q⟩
    · obtain ⟨o, ho, r, hd⟩ := t1.obj
      exact ⟨o, ho, fun v q => by rw [hd] at q; cases q⟩
    · obtain ⟨o, ho, r, hd⟩ := t2.obj
      exact ⟨o, ho, fun v q => by rw [hd] at q; cases q⟩
  keep := fun i h h' st k => let ⟨hz, hI, ⟨x, y, hO⟩, t1, t2⟩ := st
    ⟨k z (by simp) _ hz, k TI (by simp) _ hI, ⟨x, y, k TO (by simp) _ hO⟩, t1.at fun o q => k i1 (by simp) o q, t2.at fun o q => k i2 (by simp) o q⟩
  item := by
    intro X hP hw hK hc i pins s σ H E I hf st hg
    subst hP hw hK
    obtain ⟨hz, hI, ⟨x0, y0, hO⟩, t1, t2⟩ := st
    obtain ⟨xs, ys, x, y, hqx, hqy, hx, hy⟩ := hg
    obtain ⟨its, rv, p1⟩ := sqb I hqx
    obtain ⟨its2, rv2, p2⟩ := sqb I hqy
    obtain ⟨u, hu, ru⟩ := rv.get hx
    obtain ⟨u2, hu2, ru2⟩ := rv2.get hy
    have lz : z < s.heap.objs.size := Heap.lt_size hz
    refine zp_next D hz hI hO t1 t2 p1 p2 (x := u) (y := u2) (by simpa using hu) (by simpa using hu2) fun h1 z1 O1 t11 t21 hT hsz hk => ⟨_, rfl, wpAny_letOwnedTupleGo_zip (s := { s with heap := h1 }) z1 fun h2 z2 sb => ?_⟩
    have T2 : h2.get? s.heap.objs.size = some { cls := .type "tuple", data := .seq #[u, u2] } := (sb.2 _ (Nat.ne_of_gt lz)).trans hT
    have nw : ObjOk X.prog X.w (upd H s.heap.objs.size (.tup [x, y])) h2 s.heap.objs.size (.tup [x, y]) := ⟨by show 2 ≤ sizeLine; decide, [u, u2], .cons ru (.cons ru2 .nil), ⟨_, T2, rfl, _, rfl⟩⟩
    have I2 : Inv X pins σ (upd H s.heap.objs.size (.tup [x, y])) { s with heap := h2 } :=
      I.turnedNew (t' := s.toks) (ch := [z, TI, TO, i1, i2]) (fun c o hb q => (sb.2 c (fun q' => hb (by simp [q']))).trans (hk c o (fun q' => hb (by simp [q'])) (fun q' => hb (by simp [q'])) (fun q' => hb (by simp [q'])) (fun q' => hb (by simp [q'])) q)) hf (Nat.le_refl _) nw
    refine ⟨.ref s.heap.objs.size, _, I2, rfl, ⟨_, x, y, rfl, I.hok.fresh (Nat.le_refl _), rfl, fun l hl => by rw [sqb_inj I hl hqx]; exact hx, fun l hl => by rw [sqb_inj I hl hqy]; exact hy⟩,
      ⟨z2, (sb.2 _ D.TIz).trans (hk _ _ D.TIz D.TITO D.TIi1 D.TIi2 hI), ⟨u, u2, (sb.2 _ D.TOz).trans O1⟩, t11.at fun o q => (sb.2 _ D.i1z).trans q, t21.at fun o q => (sb.2 _ D.i2z).trans q⟩, fun c hcm => ?_⟩
    have lt : c < s.heap.objs.size := by
      have e' : c = z ∨ c = TI ∨ c = TO ∨ c = i1 ∨ c = i2 := by simpa using hcm
      rcases e' with rfl | rfl | rfl | rfl | rfl
      · exact lz
      · exact Heap.lt_size hI
      · exact Heap.lt_size hO
      · exact t1.lt
      · exact t2.lt
    rw [upd_ne (Nat.ne_of_lt lt)]
    exact (hf c hcm).1
  done := by
    intro X hP hw hK hc i pins s σ H E I hf st hg
    subst hP hw hK
    obtain ⟨hz, hI, ⟨x0, y0, hO⟩, t1, t2⟩ := st
    obtain ⟨xs, ys, hqx, hqy, hend⟩ := hg
    obtain ⟨its, rv, p1⟩ := sqb I hqx
    obtain ⟨its2, rv2, p2⟩ := sqb I hqy
    have l1 := rv.length
    have l2 := rv2.length
    have he : its.toArray[i]? = none ∨ its2.toArray[i]? = none := hend.imp (fun q => by simp; omega) (fun q => by simp; omega)
    exact zp_stop (I.ok.hd hc) D hz hI hO t1 t2 p1 p2 he fun h' hk => ⟨rfl, I.turnedL (t' := s.toks) (ch := [z, TI, TO, i1, i2]) (fun c o hb q => hk c o (fun q' => hb (by simp [q'])) (fun q' => hb (by simp [q'])) (fun q' => hb (by simp [q'])) (fun q' => hb (by simp [q'])) q) hf⟩
  self := fun A i s Q E st h => wpAny_pyIter_zip st.1 h
def iZp (b1 b2 : Bool) (K : PySem.W.Frag) (ta : TA) : TI := fun σ H R => ta σ H fun vs H1 => ∃ a b xs ys, vs = [.ref a, .ref b] ∧ SqB b1 K H1 a xs ∧ SqB b2 K H1 b ys ∧ R (ItZ b1 b2 K a b) H1
theorem pi_zp {X : Cx} {K : PySem.W.Frag} (b1 b2 : Bool) {e e2 : Expr} {ta : TA} {p pos tpos : Pos} {elts : List Expr} {kk : Nat} (hK : X.K = K) (hg : Gl X "zip") (hm : X.mg "zip" = none) (ha : PA X [e, e2] ta)
    (hs : starEach [e, e2] X.env = (false, eval e X.env) :: starEach [e2] X.env := by rfl) (hpl : (backTo pos (starEach [e2] X.env)).any (·.1) = false := by rfl) :
    PI X (.Tuple elts kk tpos) (.Call (.Name "zip" p) [e, e2] [] pos) (iZp b1 b2 K ta) := by
  subst hK
  refine ⟨fun pins s σ H R I h => Call_ (ld_blt I hg hm PyProof.Rows.boot_zip (PyProof.Rows.callWith_type1 (thn (ha.run pos pins s σ H _ I h) fun us s1 ⟨vs, H1, I1, r1, a, b, xs, ys, ex, hqx, hqy, q⟩ => ?_) hs hpl))⟩
  subst ex
  cases r1 with
  | cons r rr =>
    cases rr with
    | cons r' rr =>
      cases rr
      cases r
      cases r'
      obtain ⟨its, rv, p1⟩ := sqb I1 hqx
      obtain ⟨its2, rv2, p2⟩ := sqb I1 hqy
      refine zp_call p1 p2 fun h' hz hI hO t1 t2 hsz hk => wpAny_pyIter_zip hz ?_
      refine ⟨s1.heap.objs.size + 4, [s1.heap.objs.size + 4, s1.heap.objs.size + 2, s1.heap.objs.size + 3, s1.heap.objs.size, s1.heap.objs.size + 1], _, _, H1, rfl, I1.kept (t' := s1.toks) hk, turn_zp (PySem.W.ktu_apart s1.heap.objs.size a b p1.lt p2.lt), ⟨hz, hI, ⟨_, _, hO⟩, t1, t2⟩, fun c hcm => ?_, q⟩
      have hle : s1.heap.objs.size ≤ c := by
        have e' : c = s1.heap.objs.size + 4 ∨ c = s1.heap.objs.size + 2 ∨ c = s1.heap.objs.size + 3 ∨ c = s1.heap.objs.size ∨ c = s1.heap.objs.size + 1 := by simpa using hcm
        rcases e' with z | z | z | z | z <;> (rw [z]; first | exact Nat.le_add_right _ _ | exact Nat.le_refl _)
      exact I1.fpOk hle (I1.hok.fresh hle)
end Sq
namespace L3
open PySem PySem.Spec PyProof.Rows L2
/-- data of a list (b = false) or a tuple -/
def dB (b : Bool) (xs : List D) : D := match b with
  | true => .tup xs
  | false => .lst xs
section
variable {K : PySem.W.Frag} {δ : Env3} {tA : TA} {xs ys : List D} {b b1 b2 : Bool}
theorem dv_sq {F : Fz} {H : Hp} {v : V} (h : DV K F H v (dB b xs)) : ∃ a vs, v = .ref a ∧ Sq.SqB b K H a vs ∧ DVs K F H vs xs ∧ ∀ F' H', Le F H F' H' → Sq.SqB b K H' a vs := by
  cases b with
  | false =>
    cases h with
    | lst h1 h2 h3 => exact ⟨_, _, rfl, SqL.of h2, h3, fun F' H' l => SqL.of (l.keep _ _ h1 h2)⟩
  | true =>
    cases h with
    | tup h1 h2 => exact ⟨_, _, rfl, h1, h2, fun F' H' l => sqt_le l h1⟩
theorem src_en (h : Eva K δ tA [dB b xs]) : Src K δ (Sq.iEn b K tA) xs.length (fun i => .tup [.int (i : Int), xs.getD i .non]) := fun F0 H0 σ F H S R q => h F0 H0 σ F H S _ fun vs0 F1 H1 g1 r1 => by
  obtain ⟨v, rfl, r2⟩ := dvs1 r1
  obtain ⟨a, vs, rfl, h2, h3, hk⟩ := dv_sq r2
  refine ⟨a, vs, rfl, h2, q _ F1 H1 g1 ⟨fun F' H' l => ⟨vs, hk _ _ l, by rw [h3.length]; exact Nat.le_refl _⟩, fun i F' H' hi l => ?_, fun i x F' Hs H' hi l dm y => ?_⟩⟩
  · obtain ⟨v, e⟩ := dv_at h3 hi
    exact ⟨vs, v, hk _ _ l, e⟩
  · obtain ⟨T, x1, rfl, hT, rfl, y⟩ := y
    have g := (Gr.refl dm).upd (o := HO.tup [.int (i : Nat), x1]) hT
    exact ⟨g, .tup (SqT.of upd_same) (.cons (.int _) (.cons (DV.le g.le _ _ (item_at (DVs.le l _ _ h3) (y vs (hk _ _ l)))) .nil))⟩
theorem src_zp (h : Eva K δ tA [dB b1 xs, dB b2 ys]) : Src K δ (Sq.iZp b1 b2 K tA) (min xs.length ys.length) (fun i => .tup [xs.getD i .non, ys.getD i .non]) := fun F0 H0 σ F H S R q => h F0 H0 σ F H S _ fun vs0 F1 H1 g1 r1 => by
  obtain ⟨v, w, rfl, r2, r3⟩ := dvs2 r1
  obtain ⟨a, vs, rfl, h2, h3, hk⟩ := dv_sq r2
  obtain ⟨b, ws, rfl, k2, k3, kk⟩ := dv_sq r3
  refine ⟨a, b, vs, ws, rfl, h2, k2, q _ F1 H1 g1 ⟨fun F' H' l => ⟨vs, ws, hk _ _ l, kk _ _ l, by rw [h3.length, k3.length]; omega⟩, fun i F' H' hi l => ?_, fun i x F' Hs H' hi l dm y => ?_⟩⟩
  · have hi1 : i < xs.length := by omega
    have hi2 : i < ys.length := by omega
    obtain ⟨v, e⟩ := dv_at h3 hi1
    obtain ⟨w, e2⟩ := dv_at k3 hi2
    exact ⟨vs, ws, v, w, hk _ _ l, kk _ _ l, e, e2⟩
  · obtain ⟨T, x1, y1, rfl, hT, rfl, y, y2⟩ := y
    have g := (Gr.refl dm).upd (o := HO.tup [x1, y1]) hT
    exact ⟨g, .tup (SqT.of upd_same) (.cons (DV.le g.le _ _ (item_at (DVs.le l _ _ h3) (y vs (hk _ _ l)))) (.cons (DV.le g.le _ _ (item_at (DVs.le l _ _ k3) (y2 ws (kk _ _ l)))) .nil))⟩
end
end L3
set_option Elab.async false
set_option linter.all false
set_option maxRecDepth 100000
set_option maxHeartbeats 4000000
/-! min, max of ints (a list or a tuple), also with default=. -/
namespace L3
open PySem.W (AlikeAll alike minD maxD minD_ints maxD_ints min_list_data min_tuple_data max_list_data max_tuple_data min_list_default min_tuple_default max_list_default max_tuple_default)
open PySem PySem.Spec PyProof.Rows L2
def minI (d : Int) : List Int → Int
  | [] => d
  | n :: ns => ns.foldl min n
def maxI (d : Int) : List Int → Int
  | [] => d
  | n :: ns => ns.foldl max n
theorem foldl_min_le : ∀ (ns : List Int) (n : Int), ns.foldl min n ≤ n ∧ (∀ m ∈ ns, ns.foldl min n ≤ m) ∧ (ns.foldl min n = n ∨ ns.foldl min n ∈ ns)
  | [], n => ⟨Int.le_refl _, (fun m h => by cases h), .inl rfl⟩
  | k :: ns, n => by
    obtain ⟨h1, h2, h3⟩ := foldl_min_le ns (min n k)
    refine ⟨Int.le_trans h1 (Int.min_le_left _ _), fun m hm => ?_, ?_⟩
    · rcases List.mem_cons.mp hm with rfl | hm
      · exact Int.le_trans h1 (Int.min_le_right _ _)
      · exact h2 m hm
    · rcases h3 with h3 | h3
      · show ns.foldl min (min n k) = n ∨ _
        rw [h3]
        by_cases z : n ≤ k
        · exact .inl (Int.min_eq_left z)
        · exact .inr (by rw [List.foldl_cons, h3, Int.min_eq_right (by omega)]; exact List.mem_cons_self)
      · exact .inr (List.mem_cons_of_mem _ h3)
theorem foldl_max_le : ∀ (ns : List Int) (n : Int), n ≤ ns.foldl max n ∧ (∀ m ∈ ns, m ≤ ns.foldl max n) ∧ (ns.foldl max n = n ∨ ns.foldl max n ∈ ns)
  | [], n => ⟨Int.le_refl _, (fun m h => by cases h), .inl rfl⟩
  | k :: ns, n => by
    obtain ⟨h1, h2, h3⟩ := foldl_max_le ns (max n k)
    refine ⟨Int.le_trans (Int.le_max_left _ _) h1, fun m hm => ?_, ?_⟩
    · rcases List.mem_cons.mp hm with rfl | hm
      · exact Int.le_trans (Int.le_max_right _ _) h1
      · exact h2 m hm
    · rcases h3 with h3 | h3
      · show ns.foldl max (max n k) = n ∨ _
        rw [h3]
        by_cases z : k ≤ n
        · exact .inl (Int.max_eq_left z)
        · exact .inr (by rw [List.foldl_cons, h3, Int.max_eq_right (by omega)]; exact List.mem_cons_self)
      · exact .inr (List.mem_cons_of_mem _ h3)
theorem minI_iff {d k : Int} {ns : List Int} (h : ns ≠ []) : k ≤ minI d ns ↔ ∀ m ∈ ns, k ≤ m := by
  cases ns with
  | nil => exact absurd rfl h
  | cons n ns =>
    obtain ⟨h1, h2, h3⟩ := foldl_min_le ns n
    show k ≤ ns.foldl min n ↔ _
    constructor
    · intro z m hm
      rcases List.mem_cons.mp hm with rfl | hm
      · omega
      · have := h2 m hm
        omega
    · intro z
      rcases h3 with h3 | h3
      · rw [h3]
        exact z n List.mem_cons_self
      · exact z _ (List.mem_cons_of_mem _ h3)
theorem minI_mem {d : Int} {ns : List Int} (h : ns ≠ []) : minI d ns ∈ ns := by
  cases ns with
  | nil => exact absurd rfl h
  | cons n ns =>
    rcases (foldl_min_le ns n).2.2 with h3 | h3
    · show ns.foldl min n ∈ _
      rw [h3]
      exact List.mem_cons_self
    · exact List.mem_cons_of_mem _ h3
theorem maxI_iff {d k : Int} {ns : List Int} (h : ns ≠ []) : maxI d ns ≤ k ↔ ∀ m ∈ ns, m ≤ k := by
  cases ns with
  | nil => exact absurd rfl h
  | cons n ns =>
    obtain ⟨h1, h2, h3⟩ := foldl_max_le ns n
    show ns.foldl max n ≤ k ↔ _
    constructor
    · intro z m hm
      rcases List.mem_cons.mp hm with rfl | hm
      · omega
      · have := h2 m hm
        omega
    · intro z
      rcases h3 with h3 | h3
      · rw [h3]
        exact z n List.mem_cons_self
      · exact z _ (List.mem_cons_of_mem _ h3)
theorem maxI_mem {d : Int} {ns : List Int} (h : ns ≠ []) : maxI d ns ∈ ns := by
  cases ns with
  | nil => exact absurd rfl h
  | cons n ns =>
    rcases (foldl_max_le ns n).2.2 with h3 | h3
    · show ns.foldl max n ∈ _
      rw [h3]
      exact List.mem_cons_self
    · exact List.mem_cons_of_mem _ h3
theorem rds_ints (h : Heap) : ∀ {ns : List Int} {us : List Value}, Vals (ns.map V.int) us → ReadsAll h us (ns.map PyData.int) []
  | [], _, r => by
    cases r
    exact .nil
  | n :: ns, _, r => by
    cases r with
    | cons r1 r2 =>
      obtain ⟨t, rfl⟩ := r1
      exact .cons (as := []) (.int n t) (rds_ints h r2)
theorem alk_ints (ns : List Int) : AlikeAll (ns.map PyData.int) := by
  refine ⟨fun x hx y hy => ?_, fun x hx => ?_⟩
  · obtain ⟨i, _, rfl⟩ := List.mem_map.mp hx
    obtain ⟨j, _, rfl⟩ := List.mem_map.mp hy
    first | rfl | simp [alike]
  · obtain ⟨i, _, rfl⟩ := List.mem_map.mp hx
    intro z
    cases z
theorem dep_ints (ns : List Int) : PyData.depthAll (ns.map PyData.int) = 0 := by
  induction ns with
  | nil => rfl
  | cons n ns ih => simp [PyData.depthAll, PyData.depth, ih]
def rMinQ (b : Bool) (K : PySem.W.Frag) : List V → Hp → VK → Prop := fun vs H Q => ∃ (a : Addr) (n : Int) (ns : List Int), vs = [V.ref a] ∧ Sq.SqB b K H a ((n :: ns).map V.int) ∧ Q (.int (minI 0 (n :: ns))) H
def rMaxQ (b : Bool) (K : PySem.W.Frag) : List V → Hp → VK → Prop := fun vs H Q => ∃ (a : Addr) (n : Int) (ns : List Int), vs = [V.ref a] ∧ Sq.SqB b K H a ((n :: ns).map V.int) ∧ Q (.int (maxI 0 (n :: ns))) H
def rMinQD (b : Bool) (K : PySem.W.Frag) : List V → List V → Hp → VK → Prop := fun vs zs H Q => ∃ (a : Addr) (d : Int) (ns : List Int), vs = [V.ref a] ∧ zs = [V.int d] ∧ Sq.SqB b K H a (ns.map V.int) ∧ Q (.int (minI d ns)) H
def rMaxQD (b : Bool) (K : PySem.W.Frag) : List V → List V → Hp → VK → Prop := fun vs zs H Q => ∃ (a : Addr) (d : Int) (ns : List Int), vs = [V.ref a] ∧ zs = [V.int d] ∧ Sq.SqB b K H a (ns.map V.int) ∧ Q (.int (maxI d ns)) H
section
variable {X : Cx} {K : PySem.W.Frag} {b : Bool}
theorem rd_int {h : Heap} {v : Value} {n : Int} {bs : List Addr} (r : Reads h v (.int n) bs) : ∃ t, v = .int n t := by
  cases r
  exact ⟨_, rfl⟩
theorem cr_minQ (hK : X.K = K) (hc : X.calm = true) (hu : X.A.units + 64 < cLine) : CallR X (.builtin "min") (rMinQ b K) := by
  subst hK
  intro pins s σ H vs us Q I r h
  obtain ⟨a, n, ns, rfl, hs, q⟩ := h
  obtain ⟨its, rv, p⟩ := Sq.sqb I hs
  rw [Vals.ref1 r]
  have hr : ReadsAll s.heap its.toArray.toList (PyData.int n :: ns.map PyData.int) [] := rds_ints s.heap (ns := n :: ns) rv
  have ha : AlikeAll (PyData.int n :: ns.map PyData.int) := alk_ints (n :: ns)
  have hd : PyData.depthAll (PyData.int n :: ns.map PyData.int) = 0 := dep_ints (n :: ns)
  have fin : ∀ (i : Nat) (v : Value) (h' : Heap) (tk : Nat) (bs : List Addr), its.toArray[i]? = some v → Reads h' v (minD (.int n) (ns.map PyData.int)) bs → (∀ b o, s.heap.get? b = some o → h'.get? b = some o) → EP X pins σ Q v { s with heap := h', toks := tk } := fun i v h' tk bs _ rd k => by
    rw [minD_ints] at rd
    obtain ⟨t, rfl⟩ := rd_int rd
    exact ⟨.int _, H, I.kept k, ⟨t, rfl⟩, q⟩
  cases b
  · exact min_list_data (I.ok.hd hc) p hr ha (by rw [hd]; omega) fin
  · exact min_tuple_data (I.ok.hd hc) p hr ha (by rw [hd]; omega) fin
theorem cr_maxQ (hK : X.K = K) (hc : X.calm = true) (hu : X.A.units + 64 < cLine) : CallR X (.builtin "max") (rMaxQ b K) := by
  subst hK
  intro pins s σ H vs us Q I r h
  obtain ⟨a, n, ns, rfl, hs, q⟩ := h
  obtain ⟨its, rv, p⟩ := Sq.sqb I hs
  rw [Vals.ref1 r]
  have hr : ReadsAll s.heap its.toArray.toList (PyData.int n :: ns.map PyData.int) [] := rds_ints s.heap (ns := n :: ns) rv
  have ha : AlikeAll (PyData.int n :: ns.map PyData.int) := alk_ints (n :: ns)
  have hd : PyData.depthAll (PyData.int n :: ns.map PyData.int) = 0 := dep_ints (n :: ns)
  have fin : ∀ (i : Nat) (v : Value) (h' : Heap) (tk : Nat) (bs : List Addr), its.toArray[i]? = some v → Reads h' v (maxD (.int n) (ns.map PyData.int)) bs → (∀ b o, s.heap.get? b = some o → h'.get? b = some o) → EP X pins σ Q v { s with heap := h', toks := tk } := fun i v h' tk bs _ rd k => by
    rw [maxD_ints] at rd
    obtain ⟨t, rfl⟩ := rd_int rd
    exact ⟨.int _, H, I.kept k, ⟨t, rfl⟩, q⟩
  cases b
  · exact max_list_data (I.ok.hd hc) p hr ha (by rw [hd]; omega) fin
  · exact max_tuple_data (I.ok.hd hc) p hr ha (by rw [hd]; omega) fin
theorem ints_cons {ns : List Int} {y : PyData} {ys : List PyData} (h : ns.map PyData.int = y :: ys) : ∃ m ms, ns = m :: ms ∧ y = .int m ∧ ys = ms.map PyData.int := by
  cases ns with
  | nil => cases h
  | cons m ms =>
    injection h with h1 h2
    exact ⟨m, ms, rfl, h1.symm, h2.symm⟩
theorem cr_minQD (hK : X.K = K) (hc : X.calm = true) (hu : X.A.units + 64 < cLine) : CallRK X (.builtin "min") [Str.ofString "default"] (rMinQD b K) := by
  subst hK
  intro pins s σ H vs zs us ws Q I r rz h
  obtain ⟨a, d, ns, rfl, rfl, hs, q⟩ := h
  obtain ⟨its, rv, p⟩ := Sq.sqb I hs
  rw [Vals.ref1 r]
  obtain ⟨w1, rfl, t1, e1⟩ := vals1 rz
  subst e1
  have hr : ReadsAll s.heap its.toArray.toList (ns.map PyData.int) [] := rds_ints s.heap rv
  have hd : PyData.depthAll (ns.map PyData.int) = 0 := dep_ints ns
  have f0 : ns.map PyData.int = [] → ∀ (h' : Heap) (tk : Nat), (∀ b o, s.heap.get? b = some o → h'.get? b = some o) → EP X pins σ Q (.int d t1) { s with heap := h', toks := tk } := fun e h' tk k => by
    have : ns = [] := List.map_eq_nil_iff.mp e
    subst this
    exact ⟨.int _, H, I.kept k, ⟨t1, rfl⟩, q⟩
  have fin : ∀ (y : PyData) (ys : List PyData) (i : Nat) (v : Value) (h' : Heap) (tk : Nat) (bs : List Addr), ns.map PyData.int = y :: ys → its.toArray[i]? = some v → Reads h' v (minD y ys) bs → (∀ b o, s.heap.get? b = some o → h'.get? b = some o) → EP X pins σ Q v { s with heap := h', toks := tk } := fun y ys i v h' tk bs e _ rd k => by
    obtain ⟨m, ms, rfl, rfl, rfl⟩ := ints_cons e
    rw [minD_ints] at rd
    obtain ⟨t, rfl⟩ := rd_int rd
    exact ⟨.int _, H, I.kept k, ⟨t, rfl⟩, q⟩
  cases b
  · exact min_list_default (I.ok.hd hc) p hr (alk_ints ns) (by rw [hd]; omega) f0 fin
  · exact min_tuple_default (I.ok.hd hc) p hr (alk_ints ns) (by rw [hd]; omega) f0 fin
theorem cr_maxQD (hK : X.K = K) (hc : X.calm = true) (hu : X.A.units + 64 < cLine) : CallRK X (.builtin "max") [Str.ofString "default"] (rMaxQD b K) := by
  subst hK
  intro pins s σ H vs zs us ws Q I r rz h
  obtain ⟨a, d, ns, rfl, rfl, hs, q⟩ := h
  obtain ⟨its, rv, p⟩ := Sq.sqb I hs
  rw [Vals.ref1 r]
  obtain ⟨w1, rfl, t1, e1⟩ := vals1 rz
  subst e1
  have hr : ReadsAll s.heap its.toArray.toList (ns.map PyData.int) [] := rds_ints s.heap rv
  have hd : PyData.depthAll (ns.map PyData.int) = 0 := dep_ints ns
  have f0 : ns.map PyData.int = [] → ∀ (h' : Heap) (tk : Nat), (∀ b o, s.heap.get? b = some o → h'.get? b = some o) → EP X pins σ Q (.int d t1) { s with heap := h', toks := tk } := fun e h' tk k => by
    have : ns = [] := List.map_eq_nil_iff.mp e
    subst this
    exact ⟨.int _, H, I.kept k, ⟨t1, rfl⟩, q⟩
  have fin : ∀ (y : PyData) (ys : List PyData) (i : Nat) (v : Value) (h' : Heap) (tk : Nat) (bs : List Addr), ns.map PyData.int = y :: ys → its.toArray[i]? = some v → Reads h' v (maxD y ys) bs → (∀ b o, s.heap.get? b = some o → h'.get? b = some o) → EP X pins σ Q v { s with heap := h', toks := tk } := fun y ys i v h' tk bs e _ rd k => by
    obtain ⟨m, ms, rfl, rfl, rfl⟩ := ints_cons e
    rw [maxD_ints] at rd
    obtain ⟨t, rfl⟩ := rd_int rd
    exact ⟨.int _, H, I.kept k, ⟨t, rfl⟩, q⟩
  cases b
  · exact max_list_default (I.ok.hd hc) p hr (alk_ints ns) (by rw [hd]; omega) f0 fin
  · exact max_tuple_default (I.ok.hd hc) p hr (alk_ints ns) (by rw [hd]; omega) f0 fin
end
section
variable {K : PySem.W.Frag} {δ : Env3} {te td : TE} {b : Bool}
theorem sq_ints {F : Fz} {H : Hp} {v : V} {ns : List Int} (h : DV K F H v (dB b (ns.map D.int))) : ∃ a, v = .ref a ∧ Sq.SqB b K H a (ns.map V.int) := by
  obtain ⟨a, vs, rfl, h2, h3, _⟩ := dv_sq h
  have e := DVs.of_ints h3
  subst e
  exact ⟨a, rfl, h2⟩
theorem ev_minQ {n : Int} {ns : List Int} (h : Ev K δ te (dB b ((n :: ns).map D.int))) : Ev K δ (tCB (rMinQ b K) (tCons te tNil)) (.int (minI 0 (n :: ns))) := ev_cb (eva_cons h eva_nil) fun F H vs Q r q => by
  obtain ⟨v, rfl, rr⟩ := dvs1 r
  obtain ⟨a, rfl, h2⟩ := sq_ints rr
  exact ⟨a, n, ns, rfl, h2, q _ (.int _)⟩
theorem ev_maxQ {n : Int} {ns : List Int} (h : Ev K δ te (dB b ((n :: ns).map D.int))) : Ev K δ (tCB (rMaxQ b K) (tCons te tNil)) (.int (maxI 0 (n :: ns))) := ev_cb (eva_cons h eva_nil) fun F H vs Q r q => by
  obtain ⟨v, rfl, rr⟩ := dvs1 r
  obtain ⟨a, rfl, h2⟩ := sq_ints rr
  exact ⟨a, n, ns, rfl, h2, q _ (.int _)⟩
theorem ev_ckw {ds es : List D} {d : D} {tA tk : TA} {r : List V → List V → Hp → VK → Prop} (h : Eva K δ tA ds) (hk : Eva K δ tk es) (hr : ∀ F H vs zs (Q : VK), DVs K F H vs ds → DVs K F H zs es → (∀ w, DV K F H w d → Q w H) → r vs zs H Q) : Ev K δ (tCKw r tA tk) d := fun F0 H0 σ F H S Q q =>
  h F0 H0 σ F H S _ fun vs F1 H1 g1 r1 => hk F0 H0 σ F1 H1 (S.go g1) _ fun zs F2 H2 g2 r2 => hr F2 H2 vs zs Q (DVs.le g2.le _ _ r1) r2 fun w rw' => q w F2 H2 (g1.trans g2) rw'
theorem ev_minQD {d : Int} {ns : List Int} (h : Ev K δ te (dB b (ns.map D.int))) (hd : Ev K δ td (.int d)) : Ev K δ (tCKw (rMinQD b K) (tCons te tNil) (tCons td tNil)) (.int (minI d ns)) := ev_ckw (eva_cons h eva_nil) (eva_cons hd eva_nil) fun F H vs zs Q r rz q => by
  obtain ⟨v, rfl, rr⟩ := dvs1 r
  obtain ⟨z, rfl, r2⟩ := dvs1 rz
  cases r2
  obtain ⟨a, rfl, h2⟩ := sq_ints rr
  exact ⟨a, d, ns, rfl, rfl, h2, q _ (.int _)⟩
theorem ev_maxQD {d : Int} {ns : List Int} (h : Ev K δ te (dB b (ns.map D.int))) (hd : Ev K δ td (.int d)) : Ev K δ (tCKw (rMaxQD b K) (tCons te tNil) (tCons td tNil)) (.int (maxI d ns)) := ev_ckw (eva_cons h eva_nil) (eva_cons hd eva_nil) fun F H vs zs Q r rz q => by
  obtain ⟨v, rfl, rr⟩ := dvs1 r
  obtain ⟨z, rfl, r2⟩ := dvs1 rz
  cases r2
  obtain ⟨a, rfl, h2⟩ := sq_ints rr
  exact ⟨a, d, ns, rfl, rfl, h2, q _ (.int _)⟩
end
end L3
set_option Elab.async false
set_option linter.all false
set_option maxRecDepth 100000
set_option maxHeartbeats 4000000
/-! Rules that keep the items' encoding. -/
namespace L3
open PySem PySem.Spec PyProof.Rows L2
section
variable {K : PySem.W.Frag} {B : Bs} {δ : Env3} {ta tb te : TE} {tA : TA} {tt : TT} {d x : D} {α β : Type} {f g : α → D} {l m : List α} {a : α} {k : Int}
theorem evl_catM (ha : Ev K δ ta (eL f l)) (hb : Ev K δ tb (eL f m)) (hz : l.length + m.length ≤ 100000) : Evl K δ (tOp rCat ta tb) ((l ++ m).map f) :=
  (evl_cat ha hb (by rw [List.length_map, List.length_map]; exact hz)).to (List.map_append ..).symm
theorem evl_nilM : Evl K δ (tLst tNil) (([] : List α).map f) := evl_lst eva_nil
theorem evl_oneM (h : Ev K δ te (f a)) : Evl K δ (tLst (tCons te tNil)) ([a].map f) := evl_lst (eva_cons h eva_nil)
theorem evl_twoM {b : α} (h : Ev K δ ta (f a)) (h2 : Ev K δ tb (f b)) : Evl K δ (tLst (tCons ta (tCons tb tNil))) ([a, b].map f) := evl_lst (eva_cons h (eva_cons h2 eva_nil))
theorem evl_threeM {tc : TE} {b c : α} (h : Ev K δ ta (f a)) (h2 : Ev K δ tb (f b)) (h3 : Ev K δ tc (f c)) : Evl K δ (tLst (tCons ta (tCons tb (tCons tc tNil)))) ([a, b, c].map f) := evl_lst (eva_cons h (eva_cons h2 (eva_cons h3 eva_nil)))
theorem evl_fourM {tc td : TE} {b c e : α} (h : Ev K δ ta (f a)) (h2 : Ev K δ tb (f b)) (h3 : Ev K δ tc (f c)) (h4 : Ev K δ td (f e)) : Evl K δ (tLst (tCons ta (tCons tb (tCons tc (tCons td tNil))))) ([a, b, c, e].map f) := evl_lst (eva_cons h (eva_cons h2 (eva_cons h3 (eva_cons h4 eva_nil))))
theorem evl_repM (ha : Ev K δ ta (f a)) (hb : Ev K δ tb (.int k)) (hk : -100000 ≤ k ∧ k ≤ 100000) : Evl K δ (tOp rRep (tLst (tCons ta tNil)) tb) ((List.replicate k.toNat a).map f) :=
  (evl_rep1 (ev_l (evl_lst (eva_cons ha eva_nil))) hb hk).to (List.map_replicate ..).symm
/-- xs[lo:hi] -/
def cutL (xs : List α) (lo hi : Option Int) : List α := (xs.drop (HT.sIx xs.length 0 lo)).take (HT.sIx xs.length xs.length hi - HT.sIx xs.length 0 lo)
theorem cutD_map (lo hi : Option Int) : cutD (l.map f) lo hi = (cutL l lo hi).map f := by
  unfold cutD cutL
  rw [List.length_map, List.map_take, List.map_drop]
theorem evl_slM {tl th : TO} {lo hi : Option Int} (h : Ev K δ te (eL f l)) (h1 : Evo K δ tl lo) (h2 : Evo K δ th hi) : Evl K δ (tSl (rSlL K) te tl th) ((cutL l lo hi).map f) := (evl_sl h h1 h2).to (cutD_map lo hi)
theorem ev_lenM (h : Ev K δ te (eL f l)) : Ev K δ (tCB (rLenS K) (tCons te tNil)) (.int (l.length : Int)) := (ev_lenL h).to (by rw [List.length_map])
theorem ev_lenMT (h : Ev K δ te (eT f l)) : Ev K δ (tCB (rLenS K) (tCons te tNil)) (.int (l.length : Int)) := (ev_lenT h).to (by rw [List.length_map])
theorem ev_ixLM {z : α} (ha : Ev K δ ta (eL f l)) (hb : Ev K δ tb (.int k)) (h0 : 0 ≤ k) (h1 : k < l.length) : Ev K δ (tOp (rIxL K) ta tb) (f (l.getD k.toNat z)) := ev_ixL ha hb (atI_mapD f z h0 h1)
theorem ev_ixTM {z : α} (ha : Ev K δ ta (eT f l)) (hb : Ev K δ tb (.int k)) (h0 : 0 ≤ k) (h1 : k < l.length) : Ev K δ (tOp (rIxT K) ta tb) (f (l.getD k.toNat z)) := ev_ixT ha hb (atI_mapD f z h0 h1)
/-- a negative index -/
theorem ixN_neg {n : Nat} {k : Int} (h0 : k < 0) (h1 : 0 ≤ k + n) : ixN n k = some (k + n).toNat := by
  unfold ixN
  rw [if_neg (by omega), if_pos (by omega)]
theorem atI_negD {l : List α} {k : Int} (f : α → D) (z : α) (h0 : k < 0) (h1 : 0 ≤ k + l.length) : atI (l.map f) k = some (f (l.getD (k + l.length).toNat z)) := by
  unfold atI
  rw [List.length_map, ixN_neg h0 h1]
  show (l.map f)[(k + (l.length : Int)).toNat]? = _
  have : (k + (l.length : Int)).toNat < l.length := by omega
  rw [List.getElem?_map, List.getD_eq_getElem?_getD, List.getElem?_eq_getElem this]
  rfl
theorem ev_sumM {q : β → Int} {l : List β} (h : Ev K δ te (.lst (l.map fun a => D.int (q a)))) : Ev K δ (tCB (rSum K) (tCons te tNil)) (.int (l.map q).sum) := ev_sumL (ns := l.map q) (h.to (by rw [List.map_map]; rfl))
theorem ev_allM {q : β → Bool} {l : List β} (h : Ev K δ te (.lst (l.map fun a => D.bl (q a)))) : Ev K δ (tCB (rAll K) (tCons te tNil)) (.bl (l.all q)) := (ev_allL (bs := l.map q) (h.to (by rw [List.map_map]; rfl))).to (by rw [List.all_map]; rfl)
theorem ev_anyM {q : β → Bool} {l : List β} (h : Ev K δ te (.lst (l.map fun a => D.bl (q a)))) : Ev K δ (tCB (rAny K) (tCons te tNil)) (.bl (l.any q)) := (ev_anyL (bs := l.map q) (h.to (by rw [List.map_map]; rfl))).to (by rw [List.any_map]; rfl)
/-! ### comprehensions over encoded items -/
variable {wi : TI} {G : TG} {own js : List Nat}
/-- .. with a test -/
theorem evl_filA {l : List β} (enc e : β → D) (p : β → Bool) (hs : Src K δ wi (l.map enc).length fun i => (l.map enc).getD i .non) (hn : l.length ≤ 100000) (hj : ∀ j ∈ js, j ∈ own) (hb : ∀ a ∈ l, GD K js G (enc a) (wipeD δ own) fun δ2 => Evt K δ2 tt (p a) ∧ (p a = true → Ev K δ2 te (e a))) : Evl K δ (tLc wi G tt te own) ((l.filter p).map e) := by
  cases l with
  | nil => exact evl_lc (fun _ => true) (fun _ => .non) hs (by simp) hj fun i hi => absurd hi (by simp)
  | cons z l0 =>
    generalize hl : z :: l0 = l at *
    have := evl_lc (tt := tt) (te := te) (fun i => p (l.getD i z)) (fun i => e (l.getD i z)) hs (by rw [List.length_map]; exact hn) hj (fun i hi => by
      rw [List.length_map] at hi
      rw [getD_enc enc hi]
      have e2 : l.getD i z = l[i] := by rw [List.getD_eq_getElem?_getD, List.getElem?_eq_getElem hi]; rfl
      simp only [e2]
      exact hb l[i] (List.getElem_mem hi))
    rw [List.length_map, range_filter_map] at this
    exact this
/-- over range(n) -/
theorem evl_rngM (n : Nat) (e : Nat → D) (hs : Src K δ wi n fun i => .int (i : Int)) (hn : n ≤ 100000) (hj : ∀ j ∈ js, j ∈ own) (hb : ∀ i, i < n → GD K js G (.int (i : Int)) (wipeD δ own) fun δ2 => Evt K δ2 tt true ∧ Ev K δ2 te (e i)) : Evl K δ (tLc wi G tt te own) ((List.range n).map e) := evl_lc1 e hs hn hj hb
theorem evll_rngM (n : Nat) (e : Nat → List D) (hs : Src K δ wi n fun i => .int (i : Int)) (hn : n ≤ 100000) (hj : ∀ j ∈ js, j ∈ own) (hb : ∀ i, i < n → GD K js G (.int (i : Int)) (wipeD δ own) fun δ2 => Evt K δ2 tt true ∧ Evl K δ2 te (e i)) : Evll K δ (tLc wi G tt te own) ((List.range n).map e) := evll_lc1 e hs hn hj hb
theorem src_rngN {n : Nat} (h : Eva K δ tA [.int (n : Int)]) (hn : n ≤ 100000) : Src K δ (iRng1 tA) n (fun i => .int (i : Int)) := by
  have := src_rng1 h (by omega)
  rw [Int.toNat_natCast] at this
  exact this
/-! ### walks -/
theorem src_listM {l : List β} {enc : β → D} (h : Ev K δ te (eL enc l)) : Src K δ (iList K te) (l.map enc).length fun i => (l.map enc).getD i .non := src_list h
theorem src_tupM {l : List β} {enc : β → D} (h : Ev K δ te (eT enc l)) : Src K δ (iTup K te) (l.map enc).length fun i => (l.map enc).getD i .non := src_tup h
/-- enumerate -/
def eI {β : Type} (enc : β → D) (p : β × Nat) : D := .tup [.int (p.2 : Int), enc p.1]
theorem src_enM {b : Bool} {l : List β} {enc : β → D} (h : Ev K δ te (dB b (l.map enc))) : Src K δ (Sq.iEn b K (tCons te tNil)) (l.zipIdx.map (eI enc)).length fun i => (l.zipIdx.map (eI enc)).getD i .non := by
  have h1 := src_en (eva_cons h eva_nil)
  have e1 : (l.zipIdx.map (eI enc)).length = (l.map enc).length := by simp
  intro F0 H0 σ F H S R q
  refine h1 F0 H0 σ F H S R fun J F1 H1 g ok => q J F1 H1 g ⟨fun F' H' l2 => by rw [e1]; exact ok.stop F' H' l2, fun i F' H' hi l2 => ok.go i F' H' (by rw [← e1]; exact hi) l2, fun i x F' Hs H' hi l2 dm y => ?_⟩
  obtain ⟨g1, r1⟩ := ok.yld i x F' Hs H' (by rw [← e1]; exact hi) l2 dm y
  refine ⟨g1, ?_⟩
  have hl : i < l.length := by simpa using hi
  have e2 : (l.zipIdx.map (eI enc)).getD i .non = .tup [.int (i : Int), (l.map enc).getD i .non] := by
    simp [List.getD_eq_getElem?_getD, hl, eI]
  rw [e2]
  exact r1
/-- zip -/
def eZ {β γ : Type} (e1 : β → D) (e2 : γ → D) (p : β × γ) : D := .tup [e1 p.1, e2 p.2]
theorem src_zpM {γ : Type} {b1 b2 : Bool} {l : List β} {l2 : List γ} {e1 : β → D} {e2 : γ → D} (h : Ev K δ ta (dB b1 (l.map e1))) (h2 : Ev K δ tb (dB b2 (l2.map e2))) : Src K δ (Sq.iZp b1 b2 K (tCons ta (tCons tb tNil))) ((l.zip l2).map (eZ e1 e2)).length fun i => ((l.zip l2).map (eZ e1 e2)).getD i .non := by
  have h1 := src_zp (eva_cons h (eva_cons h2 eva_nil))
  have el : ((l.zip l2).map (eZ e1 e2)).length = min (l.map e1).length (l2.map e2).length := by simp
  intro F0 H0 σ F H S R q
  refine h1 F0 H0 σ F H S R fun J F1 H1 g ok => q J F1 H1 g ⟨fun F' H' l2 => by rw [el]; exact ok.stop F' H' l2, fun i F' H' hi l2 => ok.go i F' H' (by rw [← el]; exact hi) l2, fun i x F' Hs H' hi l2' dm y => ?_⟩
  obtain ⟨g1, r1⟩ := ok.yld i x F' Hs H' (by rw [← el]; exact hi) l2' dm y
  refine ⟨g1, ?_⟩
  have hi' : i < l.length ∧ i < l2.length := by
    have : i < min l.length l2.length := by simpa using hi
    omega
  have e3 : ((l.zip l2).map (eZ e1 e2)).getD i .non = .tup [(l.map e1).getD i .non, (l2.map e2).getD i .non] := by
    have h0 : i < (l.zip l2).length := by simp; omega
    rw [getD_enc _ h0, getD_enc _ hi'.1, getD_enc _ hi'.2]
    simp [eZ]
  rw [e3]
  exact r1
theorem s_forAE {γ : Type} {l : List β} {ts : TS} {D' : De} (enc : β → D) (env : γ → Env3) (I : Nat → γ → Prop) (hs : Src K δ wi (l.map enc).length fun i => (l.map enc).getD i .non) (a0 : γ) (h0 : I 0 a0) (l0 : Lek δ (env a0) := by repeat (first | exact trivial | refine ⟨Or.inl rfl, ?_⟩ | refine ⟨Or.inr rfl, ?_⟩))
    (hb : ∀ i x a, l[i]? = some x → I i a → GD K js G (enc x) (env a) fun δ3 => SD K B ts δ3 { D' with nx := At env (I (i + 1)), ct := At env (I (i + 1)), bk := D'.nx }) (hd : ∀ a δ2, I l.length a → Lek δ2 (env a) → D'.nx δ2) : SD K B (tFor wi G ts) δ D' :=
  s_forE env I hs a0 h0 l0 (fun i a hi ia => by
    rw [List.length_map] at hi
    rw [getD_enc enc hi]
    exact hb i l[i] a (List.getElem?_eq_getElem hi) ia) (fun a δ2 ia l2 => hd a δ2 (by rw [List.length_map] at ia; exact ia) l2)
theorem zipIdx_at {l : List β} {i : Nat} {x : β × Nat} (h : l.zipIdx[i]? = some x) : l[i]? = some x.1 ∧ x.2 = i := by
  rw [List.getElem?_zipIdx] at h
  cases e : l[i]? with
  | none =>
    rw [e] at h
    cases h
  | some y =>
    rw [e] at h
    cases h
    exact ⟨rfl, by simp⟩
/-! ### purity, == -/
theorem pure_lstM : D.pures (l.map fun a => D.int (k + 0)) = true := pures_map _ (fun _ => rfl) _
theorem pures_int (l : List Int) : D.pures (l.map D.int) = true := pures_map _ (fun _ => rfl) _
theorem pures_bl (l : List Bool) : D.pures (l.map D.bl) = true := pures_map _ (fun _ => rfl) _
theorem okP_le : ∀ {n : Nat} {d : D}, okP n d = true → okP (n + 1) d = true := by
  have key : ∀ (n : Nat), (∀ d : D, okP n d = true → okP (n + 1) d = true) := by
    intro n
    induction n with
    | zero =>
      intro d h
      cases d <;> simp_all [okP]
    | succ n ih =>
      intro d h
      cases d with
      | lst xs =>
        have h' : okPs n xs = true := by simpa [okP] using h
        rw [okPs_all, List.all_eq_true] at h'
        have : okPs (n + 1) xs = true := by
          rw [okPs_all, List.all_eq_true]
          exact fun x hx => ih x (h' x hx)
        simpa [okP] using this
      | tup xs =>
        have h' : okPs n xs = true := by simpa [okP] using h
        rw [okPs_all, List.all_eq_true] at h'
        have : okPs (n + 1) xs = true := by
          rw [okPs_all, List.all_eq_true]
          exact fun x hx => ih x (h' x hx)
        simpa [okP] using this
      | _ => simp_all [okP]
  exact fun {n d} h => key n d h
theorem okP_L {n : Nat} (h : ∀ a, okP n (f a) = true) : okP (n + 1) (eL f l) = true := (okP_map fun a _ => h a).1
theorem okP_T {n : Nat} (h : ∀ a, okP n (f a) = true) : okP (n + 1) (eT f l) = true := (okP_map fun a _ => h a).2
theorem okP_bl (n : Nat) (b : Bool) : okP n (.bl b) = true := by cases n <;> simp [okP]
theorem okP_non (n : Nat) : okP n .non = true := by cases n <;> simp [okP]
theorem okP_nil (n : Nat) : okP (n + 1) (.tup []) = true := by simp [okP, okPs]
theorem okPs_cons {n : Nat} {x : D} {xs : List D} (h : okP n x = true) (h2 : okP (n + 1) (.tup xs) = true) : okP (n + 1) (.tup (x :: xs)) = true := by
  have h3 : okPs n xs = true := by simpa [okP] using h2
  simp [okP, okPs, h, h3]
theorem eqP_bl (a b : Bool) : eqP (.bl a) (.bl b) = decide (a = b) := by
  unfold eqP
  simp only [toP, PyData.eqv]
  cases a <;> cases b <;> rfl
theorem eqP_str (a b : Str) : eqP (.str a) (.str b) = decide (a = b) := by
  unfold eqP
  simp only [toP, PyData.eqv]
  exact rfl
theorem eqP_nil : eqP (.tup []) (.tup []) = true := by
  unfold eqP
  simp [toP, toPs, PyData.eqv, PyData.eqvAll]
theorem eqP_cons {x y : D} {xs ys : List D} {a b : Bool} (h : eqP x y = a) (h2 : eqP (.tup xs) (.tup ys) = b) : eqP (.tup (x :: xs)) (.tup (y :: ys)) = (a && b) := by
  unfold eqP at *
  simp only [toP, toPs, PyData.eqv, PyData.eqvAll] at *
  rw [h, h2]
end
end L3
set_option Elab.async false
set_option linter.all false
set_option maxRecDepth 100000
set_option maxHeartbeats 4000000
/-! Slices in plain words. -/
namespace L3
open PySem PySem.Spec PyProof.Rows L2
variable {α : Type}
theorem cutL_from (xs : List α) {k : Int} (h : 0 ≤ k) : cutL xs (some k) none = xs.drop k.toNat := by
  unfold cutL
  have e1 : HT.sIx xs.length 0 (some k) = min k.toNat xs.length := by
    show (if k < 0 then _ else min k.toNat xs.length) = _
    rw [if_neg (by omega)]
  have e2 : HT.sIx xs.length xs.length none = xs.length := rfl
  rw [e1, e2]
  by_cases z : k.toNat ≤ xs.length
  · rw [Nat.min_eq_left z, List.take_of_length_le]
    simp
  · rw [Nat.min_eq_right (by omega), List.drop_of_length_le (i := k.toNat) (by omega)]
    simp
theorem cutL_to (xs : List α) {k : Int} (h : 0 ≤ k) : cutL xs none (some k) = xs.take k.toNat := by
  unfold cutL
  have e1 : HT.sIx xs.length xs.length (some k) = min k.toNat xs.length := by
    show (if k < 0 then _ else min k.toNat xs.length) = _
    rw [if_neg (by omega)]
  have e2 : HT.sIx xs.length 0 none = 0 := rfl
  rw [e1, e2, Nat.sub_zero, List.drop_zero]
  by_cases z : k.toNat ≤ xs.length
  · rw [Nat.min_eq_left z]
  · rw [Nat.min_eq_right (by omega), List.take_of_length_le (Nat.le_refl _), List.take_of_length_le (by omega)]
theorem map_setL {f : α → D} (Q : List α) (j : Nat) (r : α) : (Q.map f).set j (f r) = (Q.set j r).map f := (List.map_set (f := f)).symm
theorem map_setR (Q : List (List Int)) (j : Nat) (r : List Int) : (Q.map (eL D.int)).set j (.lst (r.map D.int)) = (Q.set j r).map (eL D.int) := (List.map_set (f := eL D.int)).symm
theorem map_setI (Q : List Int) (j : Nat) (r : Int) : (Q.map D.int).set j (.int r) = (Q.set j r).map D.int := (List.map_set (f := D.int)).symm
theorem getD_set_self {l : List α} {p : Nat} {a z : α} (h : p < l.length) : (l.set p a).getD p z = a := by
  rw [List.getD_eq_getElem?_getD, List.getElem?_set_self h]
  rfl
theorem getD_set_ne {l : List α} {p q : Nat} {a z : α} (h : p ≠ q) : (l.set p a).getD q z = l.getD q z := by
  rw [List.getD_eq_getElem?_getD, List.getD_eq_getElem?_getD, List.getElem?_set_ne h]
end L3
set_option Elab.async false
set_option linter.all false
set_option maxRecDepth 100000
set_option maxHeartbeats 4000000
/-! Calling an instance; defaults. -/
namespace L3
open PySem PySem.Spec PyProof.Rows L2
section
variable {X : Cx} {CX : CXT} {k : Nat} {f g C : Addr} {fd : FuncData} {ps : List Str} {sp : Sp} {dvs : List V} {ds : List Value} {E : L2.St → XK} {x m : Str} {p pos apos : Pos} {e o fe : Expr} {es : List Expr} {ta tf : TE} {t : TA}
def tInsX (C : Addr) (sp : Sp) (dvs : List V) (E : L2.St → XK) (tf : TE) (t : TA) : TE := fun σ H Q => tf σ H fun x H1 => ∃ a, x = .ref a ∧ t σ H1 fun vs H2 => (∃ dx fs, H2 a = some (.ins C dx fs)) ∧ sp (x :: (vs ++ dvs)) H2 Q (E σ)
/-- f(e, ..), f an instance -/
theorem pe_insX (hf : PE X fe tf) (c : StX.CallO X.K C g) (F : FnOk X.prog X.w X.K X.mg X.base CX k g fd ps sp) (hr : Room k X.A) (hb : Binds X.K fd ps ds) (hd : Vals dvs ds) (hx : ∀ σ, PassesAt CX X σ (E σ)) (ha : PA X (e :: es) t)
    (ht : eval (.Call fe (e :: es) [] pos) X.env = (do callWith pos (← eval fe X.env) [] (backTo pos (starEach (e :: es) X.env)) (backToKw pos (keywordEach [] X.env))) := by rfl)
    (he : starEach (e :: es) X.env = (false, eval e X.env) :: starEach es X.env := by rfl) (hpl : (backTo pos (starEach es X.env)).any (·.1) = false := by rfl) : PE X (.Call fe (e :: es) [] pos) (tInsX C sp dvs E tf t) := by
  refine ⟨fun pins s σ H Q I h => ?_⟩
  refine Call_ (thn (hf.run pins s σ H _ I h) fun u s1 ⟨y, H1, I1, ry, a, ey, q⟩ => ?_) ht
  subst ey
  obtain rfl : u = Value.ref a := ry
  refine StX.callO_with (thn (ha.run pos pins s1 σ H1 _ I1 q) fun us s2 ⟨vs, H2, I2, r, hi, q2⟩ => ?_) he hpl
  obtain ⟨ox, od, J, hdp⟩ := StX.insC_at I2 (Or.inr hi)
  refine ⟨⟨C, ox, od, J, hdp⟩, wpAny_call (PySem.W.kco_code I2.kIn J hdp c.at_ c.fn c.fi ?_)⟩
  have r2 : Vals (V.ref a :: (vs ++ dvs)) (Value.ref a :: (us ++ ds)) := .cons rfl (r.append hd)
  have hl : (Value.ref a :: (us ++ ds)).length = ps.length := by rw [← r2.length]; exact F.len _ _ _ _ q2
  refine codeAny_mono (F.run X.A X.stack s2 H2 ⟨Value.ref a :: us, []⟩ (Value.ref a :: (us ++ ds)) _ Q (E σ) hr I2.env0 (hb s2 (Value.ref a :: us) I2.kIn hl) r2 q2) fun r s' hq => ?_
  cases r with
  | error e => exact hx σ pins H2 s2 e s' I2 hq
  | ok fl =>
    cases fl with
    | ret u => exact I2.after hq
    | next => exact False.elim hq
    | brk => exact False.elim hq
    | cont => exact False.elim hq
end
section
variable {K : PySem.W.Frag} {x qual : Str} {params : Arguments} {body : List Stmt} {scope : Scope} {dvs : List V} {kws : List (Str × V)} {f C : Addr} {m : Str} {fd : FuncData} {ps : List Str}
theorem callO_of (M : Meth K C "__call__" f) (F : FunD K x qual params body scope dvs kws f fd) : StX.CallO K C f := by
  refine ⟨M.at_, M.fn, ?_⟩
  obtain ⟨oc, od, dV, kV, doc, pm, an, cdv, ct, osl, rfl, lk, _⟩ := F.ex
  unfold PySem.W.fnIn
  rw [lk]
/-- all parameters written -/
theorem binds_all (F : FunD K x qual params body scope dvs kws f fd) (hd : dvs ≠ []) (h : ∀ (T : Addr) (kV doc pm : Value) (an : Option Addr) (cdv ct : Value) (us its : List Value), us.length = ps.length → its.length = dvs.length →
      ∃ k, bindArgs (PySem.W.fnOf x qual params body scope (.ref T) kV doc pm an cdv ct) ⟨us, []⟩ = seqItems? (.ref T) >>= k ∧ k (some its.toArray) = pure (ps.zip (us ++ its.drop dvs.length))) : Binds K fd ps [] := by
  obtain ⟨ds, h1, h2⟩ := F.binds1 ps.length dvs.length hd (by omega) h
  rw [List.drop_length] at h1
  cases h1
  exact h2
end
section
variable {K : PySem.W.Frag} {δ : Env3} {tf : TE} {tA : TA} {C : Addr} {fs : List (Str × D)} {d : D} {ds es : List D} {dvs : List V} {R : List D → Rs → Prop} {E : L2.St → XK}
theorem ev_ins (hf : Ev K δ tf (.obj C fs)) (ha : Eva K δ tA ds) (hR : R (.obj C fs :: (ds ++ es)) (.d d)) (hes : ∀ F H, DVs K F H dvs es) : Ev K δ (tInsX C (spR K R) dvs E tf tA) d := fun F0 H0 σ F H S Q q => hf F0 H0 σ F H S _ fun v F1 H1 g1 r1 => by
  cases r1 with
  | @obj a _ dx gs _ h1 h2 h3 => exact ⟨a, rfl, ha F0 H0 σ F1 H1 (S.go g1) _ fun vs F2 H2 g2 r2 =>
      ⟨⟨dx, gs, g2.keep _ _ h2⟩, F2, _, _, g2.dom, .cons (DV.le g2.le _ _ (.obj h1 h2 h3)) (r2.append (hes F2 H2)), hR, fun v F' H' g r => q v F' H' ((g1.trans g2).trans g) r⟩⟩
end
theorem dvs_int1 {K : PySem.W.Frag} (n : Int) (F : Fz) (H : Hp) : DVs K F H [V.int n] [.int n] := .cons (.int n) .nil
theorem dvs_nil {K : PySem.W.Frag} (F : Fz) (H : Hp) : DVs K F H [] [] := .nil
end L3
set_option Elab.async false
set_option linter.all false
set_option maxRecDepth 100000
set_option maxHeartbeats 4000000
/-! Sets of ints; keywords; static methods. -/
namespace L3
open PySem PySem.Spec PyProof.Rows L2
/-! ### sets -/
def rLenSet (w : World) : List V → Hp → VK → Prop := fun xs H Q => ∃ a S n, xs = [.ref a] ∧ H a = some (SetO w a S n) ∧ Q (.int (n : Nat)) H
theorem cr_lenSet {X : Cx} : CallR X (.builtin "len") (rLenSet X.w) := by
  intro pins s σ H xs us Q I r h
  obtain ⟨a, S, n, rfl, ha, q⟩ := h
  cases r with
  | cons ry rt =>
    cases rt
    cases ry
    obtain ⟨o, es, ep, t, ho, hx, hd, g, nd, hm, hb, hf, rfl, _⟩ := setO_get I ha
    have hs : es.size < 4096 := hb
    refine call_len_set ho hx hd hf (by omega) ?_
    exact ⟨.int (es.size : Nat), H, I.tok _, ⟨_, rfl⟩, q⟩
def insS (xs : List Int) (k : Int) : List Int := if k ∈ xs then xs else xs ++ [k]
theorem mem_insS {xs : List Int} {k j : Int} : j ∈ insS xs k ↔ j ∈ xs ∨ j = k := by
  unfold insS
  split
  · rename_i h
    constructor
    · exact .inl
    · rintro (z | rfl)
      · exact z
      · exact h
  · simp
theorem nodup_insS {xs : List Int} {k : Int} (h : xs.Nodup) : (insS xs k).Nodup := by
  unfold insS
  split
  · exact h
  · rename_i hk
    refine List.nodup_append.mpr ⟨h, by simp, fun a ha b hb z => ?_⟩
    rw [List.mem_singleton.mp hb] at z
    exact hk (z ▸ ha)
theorem setO_eq {w : World} {a : Addr} {S S' : Int → Bool} {n n' : Nat} (h : ∀ i, S i = S' i) (hn : n = n') : SetO w a S n = SetO w a S' n' := by
  rw [funext h, hn]
section
variable {K : PySem.W.Frag} {B : Bs} {δ : Env3} {te : TE} {D' : De} {i : Nat} {w : World} {a : Addr} {xs : List Int} {k : Int}
/-- x = set() -/
theorem s_set0 (k : ∀ a, D'.nx (δ.set i (.ow (some a) (.set w a [])))) : SD K B (tAsg (tCB (rSet0 w) tNil) (gName i)) δ D' := fun σ F H Dn S L =>
  ⟨rfl, fun p hp => by
    have g : Gr F H F (upd H p (SetO w p (fun _ => false) 0)) := (Gr.refl S.dom).upd hp
    have nf : ¬ F p := fun z => by
      obtain ⟨o, e⟩ := S.dom p z
      rw [hp] at e
      cases e
    exact L.nx _ _ F _ (k p) (S.setown g i hp upd_same ⟨setO_eq (fun i => by simp) rfl, List.nodup_nil⟩ nf (fun b z => (Option.some.inj z).symm)) g.le⟩
theorem Sta.setat {F0 F : Fz} {H0 H : Hp} {σ : L2.St} (S : Sta K F0 H0 δ σ F H) (h : δ[i]? = some (.ow (some a) (.set w a xs))) : σ[i]? = some (some (.ref a)) ∧ H a = some (SetO w a (fun i => decide (i ∈ xs)) xs.length) ∧ xs.Nodup ∧ ¬ F a ∧
    ∀ o' c', CnR K F (upd H a o') c' o' → Sta K F0 H0 (δ.set i (.ow (some a) c')) σ F (upd H a o') ∧ Le F H F (upd H a o') := by
  obtain ⟨b, o, e1, e2, ⟨rfl, nd⟩, e4, _, hq, wr⟩ := S.ow h
  have := hq a rfl
  subst this
  exact ⟨e1, e2, nd, e4, wr⟩
/-- x.add(e) -/
theorem s_sadd (h : δ[i]? = some (.ow (some a) (.set w a xs))) (he : Ev K δ te (.int k)) (hz : xs.length < 4000) (kk : D'.nx (δ.set i (.ow (some a) (.set w a (insS xs k))))) : SD K B (tDrop (tSAdd w (tVar i) (tCons te tNil))) δ D' := fun σ F H Dn S L => by
  obtain ⟨e1, e2, _⟩ := S.setat h
  refine ⟨_, e1, ⟨a, _, _, rfl, e2⟩, he _ _ σ F H S _ fun v F1 H1 g1 r1 => ?_⟩
  cases r1
  obtain ⟨e3, e4, nd, nf, wr⟩ := (S.go g1).setat h
  refine ⟨a, k, _, _, rfl, rfl, e4, Nat.lt_of_le_of_lt (Nat.succ_le_succ (Nat.le_of_lt hz)) (by decide), ?_⟩
  have ho : SetO w a (fun j => decide (j ∈ xs) || decide (j = k)) (if decide (k ∈ xs) = true then xs.length else xs.length + 1) = SetO w a (fun j => decide (j ∈ insS xs k)) (insS xs k).length := by
    refine setO_eq (fun j => ?_) ?_
    · rw [Bool.eq_iff_iff]
      simp [mem_insS]
    · unfold insS
      by_cases z : k ∈ xs <;> simp [z]
  obtain ⟨S2, l2⟩ := wr (SetO w a (fun j => decide (j ∈ xs) || decide (j = k)) (if decide (k ∈ xs) = true then xs.length else xs.length + 1)) (.set w a (insS xs k)) ⟨ho, nodup_insS nd⟩
  exact L.nx _ _ F1 _ kk S2 (g1.le.trans l2)
theorem ev_sin (h : δ[i]? = some (.ow (some a) (.set w a xs))) (he : Ev K δ te (.int k)) : Ev K δ (tOp (rSIn w) te (tVar i)) (.bl (decide (k ∈ xs))) := fun F0 H0 σ F H S Q q => he F0 H0 σ F H S _ fun v F1 H1 g1 r1 => by
  cases r1
  obtain ⟨e1, e2, _⟩ := (S.go g1).setat h
  exact ⟨_, e1, k, a, _, _, rfl, rfl, e2, q _ F1 H1 g1 (.bl _)⟩
theorem ev_snotin (h : δ[i]? = some (.ow (some a) (.set w a xs))) (he : Ev K δ te (.int k)) : Ev K δ (tOp (rSNotIn w) te (tVar i)) (.bl (!decide (k ∈ xs))) := fun F0 H0 σ F H S Q q => he F0 H0 σ F H S _ fun v F1 H1 g1 r1 => by
  cases r1
  obtain ⟨e1, e2, _⟩ := (S.go g1).setat h
  exact ⟨_, e1, k, a, _, _, rfl, rfl, e2, q _ F1 H1 g1 (.bl _)⟩
theorem ev_slen (h : δ[i]? = some (.ow (some a) (.set w a xs))) : Ev K δ (tCB (rLenSet w) (tCons (tVar i) tNil)) (.int (xs.length : Nat)) := fun F0 H0 σ F H S Q q => by
  obtain ⟨e1, e2, _⟩ := S.setat h
  exact ⟨_, e1, a, _, _, rfl, e2, q _ F H (.refl S.dom) (.int _)⟩
/-! ### is None -/
def isNon : D → Bool
  | .non => true
  | _ => false
theorem non_iff {F : Fz} {H : Hp} {v : V} {d : D} (r : DV K F H v d) : decide (v = .non) = isNon d := by
  cases r with
  | exn _ _ r2 =>
    cases r2 <;> simp [isNon]
  | _ => simp [isNon]
theorem ev_isN {ta : TE} {d : D} (ha : Ev K δ ta d) : Ev K δ (tOp (fun x y H Q => y = .non ∧ Q (.bl (decide (x = .non))) H) ta (tC .non)) (.bl (isNon d)) := fun F0 H0 σ F H S Q q => ha F0 H0 σ F H S _ fun v F1 H1 g1 r1 => by
  refine ⟨rfl, q _ F1 H1 g1 ?_⟩
  rw [non_iff r1]
  exact .bl _
theorem ev_isnotN {ta : TE} {d : D} (ha : Ev K δ ta d) : Ev K δ (tOp (fun x y H Q => y = .non ∧ Q (.bl (!decide (x = .non))) H) ta (tC .non)) (.bl (!isNon d)) := fun F0 H0 σ F H S Q q => ha F0 H0 σ F H S _ fun v F1 H1 g1 r1 => by
  refine ⟨rfl, q _ F1 H1 g1 ?_⟩
  rw [non_iff r1]
  exact .bl _
end
end L3
set_option Elab.async false
set_option linter.all false
set_option maxRecDepth 100000
set_option maxHeartbeats 4000000
/-! Keywords of a class's call; static methods. -/
namespace L3
open PySem PySem.Spec PyProof.Rows L2
section
variable {X : Cx} {CX : CXT} {k n : Nat} {f C p g : Addr} {fd : FuncData} {ps ks : List Str} {sp : Sp} {E : L2.St → XK} {x m : Str} {pp pos apos : Pos} {e o : Expr} {es : List Expr} {kws : List Keyword} {ta : TE} {t tk : TA} {gf : List Value → List Value → List Value} {gV : List V → List V → List V}
/-- C(e, .., k = v, ..) at the caller's slots -/
def tMakeKX (C : Addr) (n m : Nat) (sp : Sp) (gV : List V → List V → List V) (E : L2.St → XK) (t tk : TA) : TE := fun σ H Q => t σ H fun vs H1 => tk σ H1 fun zs H2 => vs.length = n ∧ zs.length = m ∧ ∀ x dx, H2 x = none → H2 dx = none → dx ≠ x →
  sp (gV (.ref x :: vs) zs) (upd (upd H2 dx (.own x)) x (.ins C dx [])) (fun v H3 => v = .non ∧ Q (.ref x) H3) (E σ)
theorem run_makeKX {pins : List (Addr × Obj)} {σ : L2.St} {H : Hp} {s : Shared} {Q : VK} {us ws : List Value} {vs zs : List V} {E : XK} (M : Mk X.K C f) (F : FnOk X.prog X.w X.K X.mg X.base (L2.CX X.prog X.w) k f fd ps sp) (hr : Room (k + 1) X.A) (hb : KBn X.K fd ps (n + 1) ks gf gV) (hx : PassesAt (L2.CX X.prog X.w) X σ E)
    (I : Inv X pins σ H s) (r : Vals vs us) (rz : Vals zs ws) (l1 : vs.length = n) (l2 : zs.length = ks.length)
    (h : ∀ x dx, H x = none → H dx = none → dx ≠ x → sp (gV (.ref x :: vs) zs) (upd (upd H dx (.own x)) x (.ins C dx [])) (fun v H2 => v = .non ∧ Q (.ref x) H2) E) :
    wpAny (model X.prog X.w) X.A (call (.ref C) us (ks.zip ws)) (EP X pins σ Q) X.xe s := by
  have hq := h (s.heap.objs.size + 1) s.heap.objs.size (I.hok.fresh (Nat.le_succ _)) (I.hok.fresh (Nat.le_refl _)) (Nat.ne_of_lt (Nat.lt_succ_self _))
  have I2 := Inv.made (C := C) I
  have r1 : Vals (V.ref (s.heap.objs.size + 1) :: vs) (Value.ref (s.heap.objs.size + 1) :: us) := .cons rfl r
  have r2 := hb.rel r1 rz
  have n1 : (Value.ref (s.heap.objs.size + 1) :: us).length = n + 1 := by
    rw [List.length_cons, ← r.length, l1]
  refine wpAny_call (make_map (f := f) I.kIn M.makes M.init (beq_iff_eq.mp M.fn) (codeAny_mono (F.run _ X.stack _ _ ⟨Value.ref (s.heap.objs.size + 1) :: us, ks.zip ws⟩ (gf (Value.ref (s.heap.objs.size + 1) :: us) ws) _ _ E (hr.make C us (ks.zip ws))
    (I2.env0.make C us (ks.zip ws)) (hb.to _ (Value.ref (s.heap.objs.size + 1) :: us) ws I2.kIn n1 (rz.length.symm.trans l2)) r2 hq) fun r s' hq' => ?_))
  cases r with
  | error e => exact hx pins _ _ e s' I2 hq'
  | ok fl =>
    cases fl with
    | ret u =>
      obtain ⟨v, H', I3, rv, ev, q3⟩ := I2.after hq'
      subst ev
      exact ⟨rv, ⟨V.ref (s.heap.objs.size + 1), H', I3, rfl, q3⟩⟩
    | next => exact False.elim hq'
    | brk => exact False.elim hq'
    | cont => exact False.elim hq'
theorem pe_makeKX (M : Mk X.K C f) (F : FnOk X.prog X.w X.K X.mg X.base (L2.CX X.prog X.w) k f fd ps sp) (hr : Room (k + 1) X.A) (hg : Gl X x) (hm : X.mg x = some (.ref C)) (hb : KBn X.K fd ps (n + 1) ks gf gV) (hx : ∀ σ, PassesAt (L2.CX X.prog X.w) X σ (E σ)) (ha : PA X (e :: es) t) (hkw : PK X kws tk)
    (hall : (backToKw pos (keywordEach kws X.env)).all (·.1.isSome) = true := by rfl) (hks : (backToKw pos (keywordEach kws X.env)).filterMap (·.1) = ks := by rfl) (hdb : (x == ("__debug__" : Str)) = false := by decide)
    (he : starEach (e :: es) X.env = (false, eval e X.env) :: starEach es X.env := by rfl) (hpl : ((backTo pos (starEach (e :: es) X.env)).any (·.1) || (backToKw pos (keywordEach kws X.env)).any (·.1.isNone)) = false := by rfl) :
    PE X (.Call (.Name x pp) (e :: es) kws pos) (tMakeKX C n ks.length sp gV E t tk) := by
  refine ⟨fun pins s σ H Q I h => ?_⟩
  refine wpAny_Call_Name_kw (ld_glob I hg hm ?_ hdb)
  refine PySem.W.callWith_KW (h₀ := X.base) I.ok.mod.kin M.kp hall (thn (ha.run pos pins s σ H _ I h) fun us s1 ⟨vs, H1, I1, r, q⟩ => ?_) hpl he
  refine thn (hkw.run pos pins s1 σ H1 _ I1 q) fun ws s2 ⟨zs, H2, I2, rz, l1, l2, q2⟩ => ⟨I2.kIn, ?_⟩
  rw [hks]
  exact run_makeKX M F hr hb (hx σ) I2 r rz l1 l2 q2
/-- what a class must have of a static method -/
structure SMet (K : PySem.W.Frag) (C : Addr) (m : Str) (p g : Addr) : Prop where
  rd : ClX.CRead K C (.type "type")
  at_ : PySem.W.findCls K (.ref C) (.type "type") m = some (.get (.builtin "staticmethod.__get__") (.ref p) .none (.ref C))
  rc : ∃ rest, PySem.W.recIn K p "staticmethod" = some (.ref g :: rest)
  kp : PySem.W.keepIn K (.ref g) = true
theorem getmethsm_ok {pins : List (Addr × Obj)} {σ : L2.St} {H : Hp} {s : Shared} {A : Around} {E : Value → Shared → Prop} {pl : Sem Bool} {Q : Value × List Value → Shared → Prop} (I : Inv X pins σ H s) (c : SMet X.K C m p g) (h : ∀ s', Inv X pins σ H s' → Q (.ref g, []) s') : wpAny (model X.prog X.w) A (getMethod (.ref C) m pl) Q E s := by
  obtain ⟨rest, hp⟩ := c.rc
  refine PySem.W.method_cls I.kIn c.rd.ga (PySem.W.cls_bind I.kIn c.rd.rd c.at_ (wpAny_call (PySem.W.sm_get (s := { s with toks := s.toks + 1 }) I.kIn hp (PySem.W.handed_on rfl ?_))))
  exact h _ (I.tok _)
def tSMethK (C : Addr) (n m : Nat) (sp : Sp) (gV : List V → List V → List V) (E : L2.St → XK) (ta : TE) (t tk : TA) : TE := fun σ H Q => ta σ H fun x H1 => x = .ref C ∧ t σ H1 fun vs H2 => tk σ H2 fun zs H3 => vs.length = n ∧ zs.length = m ∧ sp (gV vs zs) H3 Q (E σ)
/-- C.m(e, .., k = v, ..), m a static method -/
theorem pe_smethK {pl : Sem Bool} (he : PE X o ta) (c : SMet X.K C m p g) (F : FnOk X.prog X.w X.K X.mg X.base CX k g fd ps sp) (hr : Room k X.A) (hb : KBn X.K fd ps n ks gf gV) (hx : ∀ σ, PassesAt CX X σ (E σ)) (ha : PA X (e :: es) t) (hkw : PK X kws tk)
    (hall : (backToKw pos (keywordEach kws X.env)).all (·.1.isSome) = true := by rfl) (hks : (backToKw pos (keywordEach kws X.env)).filterMap (·.1) = ks := by rfl)
    (hst : starEach (e :: es) X.env = (false, eval e X.env) :: starEach es X.env := by rfl) (hpl : ((backTo pos (starEach (e :: es) X.env)).any (·.1) || (backToKw pos (keywordEach kws X.env)).any (·.1.isNone)) = false := by rfl)
    (ht : eval (.Call (.Attribute o m apos) (e :: es) kws pos) X.env = (do
      let ov ← eval o X.env
      standAt apos.atName
      let (f, first) ← holding [ov] (getMethod ov m pl)
      callWith pos f first (backTo pos (starEach (e :: es) X.env)) (backToKw pos (keywordEach kws X.env))) := by rfl) :
    PE X (.Call (.Attribute o m apos) (e :: es) kws pos) (tSMethK C n ks.length sp gV E ta t tk) := by
  refine ⟨fun pins s σ H Q I h => ?_⟩
  refine PySem.W.methodCall_KW (pl := pl) (thn (he.run pins s σ H _ I h) fun u s1 ⟨x, H1, I1, rx, ex, q⟩ => ?_) ht
  subst ex
  obtain rfl : u = Value.ref C := rx
  refine getmethsm_ok I1 c fun s1' I1' => ?_
  refine PySem.W.callWith_KW (first := []) (h₀ := X.base) I.ok.mod.kin c.kp hall (thn (ha.run pos pins s1' σ H1 _ I1' q) fun us s2 ⟨vs, H2, I2, r, q2⟩ => ?_) hpl hst
  refine thn (hkw.run pos pins s2 σ H2 _ I2 q2) fun ws s3 ⟨zs, H3, I3, rz, l1, l2, q3⟩ => ⟨I3.kIn, ?_⟩
  rw [hks]
  have r2 := hb.rel r rz
  refine wpAny_call (codeAny_mono (F.run X.A X.stack s3 H3 ⟨us, ks.zip ws⟩ (gf us ws) (gV vs zs) Q (E σ) hr I3.env0 (hb.to s3 us ws I3.kIn (r.length.symm.trans l1) (rz.length.symm.trans l2)) r2 q3) fun r s' hq => ?_)
  cases r with
  | error e => exact hx σ pins H3 s3 e s' I3 hq
  | ok fl =>
    cases fl with
    | ret u => exact I3.after hq
    | next => exact False.elim hq
    | brk => exact False.elim hq
    | cont => exact False.elim hq
end
section
variable {K : PySem.W.Frag} {δ : Env3} {tA tk : TA} {C : Addr} {fs : List (Str × D)} {d : D} {ds es : List D} {n m : Nat} {E : L2.St → XK} {R : List D → Ri → Prop} {Rm : List D → Rs → Prop} {ta : TE}
theorem ev_makeK (h : Eva K δ tA ds) (hk : Eva K δ tk es) (hR : R (ds ++ es) (.ok fs)) (l1 : ds.length = n := by rfl) (l2 : es.length = m := by rfl) : Ev K δ (tMakeKX C n m (spI K C R) (fun vs zs => vs ++ zs) E tA tk) (.obj C fs) := fun F0 H0 σ F H S Q q => h F0 H0 σ F H S _ fun vs F1 H1 g1 r1 => hk F0 H0 σ F1 H1 (S.go g1) _ fun zs F2 H2 g2 r2 => ⟨by rw [r1.length, l1], by rw [r2.length, l2], fun x dx hx hd ne => by
  obtain ⟨nf, g3⟩ := made (C := C) g2.dom hx hd ne
  have lz := le_made (C := C) (dx := dx) g2.dom hx hd
  refine ⟨x, dx, vs ++ zs, F2, ds ++ es, .ok fs, rfl, upd_same, nf, fun a fa => ?_, DVs.le lz _ _ ((DVs.le g2.le _ _ r1).append r2), hR, fun dx2 gs F' H' g nf' e r => ⟨rfl, q _ (L3.add F' x) H' ((g1.trans g2).trans ((g3.trans g).add hx e)) ?_⟩⟩
  · obtain ⟨o, e⟩ := g2.dom a fa
    exact ⟨o, lz.keep a o fa e⟩
  · have l : Le F' H' (L3.add F' x) H' := ⟨fun _ z => .inl z, fun _ _ _ z => z, fun _ _ z => z, fun _ _ _ z => z⟩
    exact .obj (.inr rfl) e (DFs.le l _ _ r)⟩
theorem ev_smethK (ho : Ev K δ ta (.ref C)) (h : Eva K δ tA ds) (hk : Eva K δ tk es) (hR : Rm (ds ++ es) (.d d)) (l1 : ds.length = n := by rfl) (l2 : es.length = m := by rfl) : Ev K δ (tSMethK C n m (spR K Rm) (fun vs zs => vs ++ zs) E ta tA tk) d := fun F0 H0 σ F H S Q q => ho F0 H0 σ F H S _ fun v F1 H1 g1 r0 => by
  cases r0
  exact ⟨rfl, h F0 H0 σ F1 H1 (S.go g1) _ fun vs F2 H2 g2 r1 => hk F0 H0 σ F2 H2 ((S.go g1).go g2) _ fun zs F3 H3 g3 r2 => ⟨by rw [r1.length, l1], by rw [r2.length, l2],
    F3, _, _, g3.dom, (DVs.le g3.le _ _ r1).append r2, hR, fun v F' H' g r => q v F' H' (((g1.trans g2).trans g3).trans g) r⟩⟩
end
end L3
/-! ### facts of static methods -/
namespace Sy
open PySem PySem.W PySem.Calls PySem.Spec PyProof.Rows L2 ClX He He5
/-- a static method of the class x: where its def stands -/
def stAd (K : Frag) (d : DefD) : Addr := wf K (ga K d.at_.1) "staticmethod" d.name
def fnT (K : Frag) (d : DefD) : He.FnW := match K.lookup (stAd K d) with
  | some ⟨_, _, .func fd, _⟩ => some (fd.name, fd.qualname, fd.params, fd.body, fd.scope, fd.globals, fd.closure, fd.builtins)
  | _ => none
def stOk (K : Frag) (d : DefD) : Bool := wrapB K (ga K d.at_.1) "staticmethod" "staticmethod.__get__" d.name && (decide (readsIn K (ga K d.at_.1) (.type "type") = true) && (eqO (specialIn K (.ref (ga K d.at_.1)) "__getattribute__") (some (some (.builtin "type.__getattribute__"))) && (keepIn K (.ref (stAd K d)) && (match K.lookup (stAd K d) with
  | some ⟨_, _, .func fd, _⟩ => codeIn K fd.code d.qual && (dflB K fd.defaults (d.dvs K) && kwdB K fd.kwdefaults (d.kws K))
  | _ => false))))
theorem st_ok {K : Frag} {d : DefD} (e : fnT K d = d.val) (c : stOk K d = true) : L3.SMet K (ga K d.at_.1) d.name (ma K (ga K d.at_.1) d.name) (stAd K d) ∧ ∃ fd, FunD K d.name d.qual d.params d.body d.scope (d.dvs K) (d.kws K) (stAd K d) fd := by
  obtain ⟨c1, c⟩ := ba c
  obtain ⟨c2, c⟩ := ba c
  obtain ⟨c3, c⟩ := ba c
  obtain ⟨kp, c2'⟩ := ba c
  obtain ⟨w1, w2⟩ := wrapB_ok c1
  refine ⟨⟨⟨of_decide_eq_true c2, eqO_ok c3⟩, w1, w2, kp⟩, ?_⟩
  unfold fnT at e
  cases q : K.lookup (stAd K d) with
  | none =>
    rw [q] at c2'
    cases c2'
  | some o =>
    obtain ⟨oc, od, dt, osl⟩ := o
    rw [q] at c2' e
    cases dt with
    | func fd =>
      obtain ⟨n1, n2, n3, n4, n5, n6, n7, n8, n9, n10, n11, n12, n13, n14, n15⟩ := fd
      have e2 : (some (n1, n2, n3, n4, n5, n6, n7, n15) : He.FnW) = some (d.name, d.qual, d.params, .stmts d.body, d.scope, mainGlobals, [], builtinsNs) := e
      simp only [Option.some.injEq, Prod.mk.injEq] at e2
      obtain ⟨h1, h2, h3, h4, h5, h6, h7, h8⟩ := e2
      have c3' : (codeIn K n13 d.qual && (dflB K n8 (d.dvs K) && kwdB K n9 (d.kws K))) = true := c2'
      obtain ⟨k1, k2⟩ := ba c3'
      obtain ⟨k3, k4⟩ := ba k2
      subst h1 h2 h3 h4 h5 h6 h7 h8
      exact ⟨_, ⟨oc, od, n8, n9, n10, n11, n12, n13, n14, osl, rfl, q, k1, dflB_ok k3, kwdB_ok k4⟩, kp⟩
    | _ => cases c2'
abbrev AlZ : Type := AlY × Bool × List He.FnW
def obsZ (file : PySem.Str) (fa : List Fa) (fn : List DefD) (sn : List SupD) (fx : List Fx) (st : List DefD) (K : Frag) : AlZ := (obsY file fa fn sn fx K, st.all (fun d => stOk K d), st.map fun d => fnT K d)
def valZ (fn : List DefD) (sn : List SupD) (st : List DefD) : AlZ := (valY fn sn, true, st.map DefD.val)
structure SaysZ (file : PySem.Str) (fa : List Fa) (fn : List DefD) (sn : List SupD) (fx : List Fx) (st : List DefD) (K : Frag) : Prop extends SaysY file fa fn sn fx K where
  t : ∀ d ∈ st, L3.SMet K (ga K d.at_.1) d.name (ma K (ga K d.at_.1) d.name) (stAd K d) ∧ ∃ fd, FunD K d.name d.qual d.params d.body d.scope (d.dvs K) (d.kws K) (stAd K d) fd
theorem saysZ_of {file : PySem.Str} {fa : List Fa} {fn : List DefD} {sn : List SupD} {fx : List Fx} {st : List DefD} {K : Frag} (e : obsZ file fa fn sn fx st K = valZ fn sn st) : SaysZ file fa fn sn fx st K := by
  have e1 : obsY file fa fn sn fx K = valY fn sn := congrArg (fun z : AlZ => z.1) e
  have e2 : st.all (fun d => stOk K d) = true := congrArg (fun z : AlZ => z.2.1) e
  have e3 : st.map (fun d => fnT K d) = st.map DefD.val := congrArg (fun z : AlZ => z.2.2) e
  refine ⟨saysY_of e1, fun d hd => ?_⟩
  obtain ⟨i, hi, ed⟩ := List.mem_iff_getElem.mp hd
  have h1 : (st.map fun d => fnT K d)[i]? = some (fnT K d) := by
    rw [List.getElem?_map, List.getElem?_eq_getElem hi, ed]
    rfl
  have h2 : (st.map DefD.val)[i]? = some d.val := by
    rw [List.getElem?_map, List.getElem?_eq_getElem hi, ed]
    rfl
  rw [e3, h2] at h1
  exact st_ok (Option.some.inj h1).symm (List.all_eq_true.mp e2 d hd)
def obsZG (n : Nat) (file : PySem.Str) (fa : List Fa) (fn : List DefD) (sn : List SupD) (fx : List Fx) (st : List DefD) (g : Addr → Option Obj) : AlZ := obsZ file fa fn sn fx st (frG g (asY g n))
def hookZ (n : Nat) (file : PySem.Str) (fa : List Fa) (fn : List DefD) (sn : List SupD) (fx : List Fx) (st : List DefD) : PySem.W.Hook where
  α := AlZ
  obs := fun s => obsZG n file fa fn sn fx st s.heap.get?
  val := fun _ => valZ fn sn st
  says := fun _ h => ∃ K : Frag, K.In h ∧ SaysZ file fa fn sn fx st K
  of := fun _ _ e => ⟨_, frG_in, saysZ_of e⟩
  keeps := fun _ _ _ ⟨K, hK, c⟩ k => ⟨K, Frag.In.keeps hK k, c⟩
theorem obsZG_eq {n : Nat} {file : PySem.Str} {fa : List Fa} {fn : List DefD} {sn : List SupD} {fx : List Fx} {st : List DefD} {g : Addr → Option Obj} {s : Shared} (h : ∀ a, g a = s.heap.get? a) : obsZG n file fa fn sn fx st g = (hookZ n file fa fn sn fx st).obs s := by
  have e : g = s.heap.get? := funext h
  rw [e] <;> rfl
theorem SaysZ.stat {file : PySem.Str} {fa : List Fa} {fn : List DefD} {sn : List SupD} {fx : List Fx} {st : List DefD} {K : Frag} (c : SaysZ file fa fn sn fx st K) (i : Nat) {d : DefD} (h : st[i]? = some d := by rfl) : L3.SMet K (ga K d.at_.1) d.name (ma K (ga K d.at_.1) d.name) (stAd K d) ∧ ∃ fd, FunD K d.name d.qual d.params d.body d.scope (d.dvs K) (d.kws K) (stAd K d) fd := c.t d (List.mem_of_getElem? h)
end Sy
set_option Elab.async false
set_option linter.all false
set_option maxRecDepth 100000
set_option maxHeartbeats 4000000
/-! sorted of a tuple of ints; an f-string of None. -/
namespace L3
open PySem PySem.Spec PyProof.Rows L2
def rSortedU (K : PySem.W.Frag) : List V → Hp → VK → Prop := fun vs H Q => ∃ (a : Addr) (ns : List Int), vs = [V.ref a] ∧ SqT K H a (ns.map V.int) ∧
  ∀ (ms : List Int) (p : Addr), ms.Perm ns → ms.Pairwise (· ≤ ·) → H p = none → Q (.ref p) (upd H p (.lst (ms.map V.int)))
theorem cr_sortedU {X : Cx} : CallR X (.builtin "sorted") (rSortedU X.K) := by
  intro pins s σ H vs us Q I r h
  obtain ⟨a, ns, rfl, hs, q⟩ := h
  obtain ⟨its, rv, ⟨o, ho, hc, n, hd⟩, hz⟩ := I.tuple hs
  rw [Vals.ref1 r]
  have hi := rv.ints
  have hz2 : its.length ≤ sizeLine := by rw [← rv.length]; exact hz
  refine Calls.call_function_entry kind_sorted plain_sorted entry_sorted (args_sorted1 _) ?_
  unfold Builtin.«sorted»
  refine wpAny_bind (m := checkCount "sorted" 1 1 _) (wpAny_pure ?_)
  refine wpAny_bind (wpAny_collect_seq a (.inr rfl) ho hc hd (fun h1 k1 => ?_) (by rw [List.size_toArray]; exact hz2))
  have e0 : its.toArray.toList = its := by simp
  rw [e0]
  refine wpAny_bind (wpAny_newList ?_ hz2)
  have hoL : (h1.push (seqObj "list" its.toArray 0)).get? h1.objs.size = some (seqObj "list" its.toArray 0) := Heap.get?_push_size _ rfl
  have I1 := I.kept (t' := s.toks) k1
  refine wpAny_bind (wpAny_holding (wpAny_call_entry slot_list_sort ⟨_, hoL, rfl⟩ entry_list_sort (SrtO.list_sort_ord SrtO.swo_int hoL hz2 (fun h2 => SrtO.ints_sortable hi h2) fun out g1 g2 => ⟨_, rfl, ?_⟩) (args_list_sort _)))
  obtain ⟨k1', k2', k3'⟩ := SrtO.ints_out hi g1 g2
  obtain ⟨ep, he'⟩ := PyProof.Rows.sortedHeap_at (vs := its) (out := out.toArray) hoL
  have hlen : ((out.map SrtO.iv).map V.int).length ≤ sizeLine := by
    rw [List.length_map, k2'.length_eq]
    rw [List.length_map] at hz
    exact hz
  refine wpAny_pure ⟨_, rfl, ?_⟩
  exact ⟨.ref _, upd H h1.objs.size (.lst ((out.map SrtO.iv).map V.int)), I1.laid (t' := s.toks) (fun b u hu => by
    have hlt : b < h1.objs.size := Heap.lt_size hu
    rw [sortedHeap_old (Nat.ne_of_lt hlt) (Nat.lt_trans hlt (by rw [Heap.size_push]; exact Nat.lt_succ_self _))]
    exact Heap.get?_push_of_some _ hu) (Nat.le_refl _) ⟨hlen, out, ep, vals_of_ints k1', he'⟩, rfl, q _ _ k2' k3' (I1.hok.fresh (Nat.le_refl _))⟩
section
variable {K : PySem.W.Frag} {δ : Env3} {te : TE}
theorem evl_sortedU {ns : List Int} (h : Ev K δ te (.tup (ns.map D.int))) : Evl K δ (tCB (rSortedU K) (tCons te tNil)) ((sortI ns).map D.int) := evl_cb (eva_cons h eva_nil) fun F H vs Q r q => by
  obtain ⟨v, rfl, r1⟩ := dvs1 r
  cases r1 with
  | tup h2 h3 =>
    have e := DVs.of_ints h3
    subst e
    exact ⟨_, ns, rfl, h2, fun ms p hp hs hn => by
      have e := sortI_eq hp hs
      subst e
      exact q _ (DVs.ints _) p hn⟩
end
/-! ### {x}, x a text, an int or None -/
def tFmtN (te : TE) : TE := fun σ H Q => te σ H fun x H1 => (x = .non ∧ Q (.str "None") H1) ∨ ∃ i : Int, x = .int i ∧ i.natAbs.log2 < 1920 ∧ Q (.str (toString i)) H1
theorem pe_fmtN {X : Cx} {e : Expr} {te : TE} {pos : Pos} (he : PE X e te) : PE X (.FormattedValue e (-1) none pos) (tFmtN te) := by
  refine ⟨fun pins s σ H Q I h => ?_⟩
  refine wpAny_FormattedValue_plain (thn (he.run pins s σ H _ I h) fun v s1 hv => ?_)
  obtain ⟨x, H1, I1, r1, q⟩ := hv
  rcases q with ⟨rfl, q⟩ | ⟨i, rfl, hz, q⟩
  · cases r1
    exact wpAny_formatField_none ⟨.str "None", H1, I1.tok _, ⟨_, rfl⟩, q⟩
  · obtain ⟨t, rfl⟩ := r1
    exact wpAny_formatField_int hz ⟨.str (toString i), H1, I1.tok _, ⟨_, rfl⟩, q⟩
def IntN (v : V) : Prop := v = .non ∨ IntV v
theorem msgN_svs {s1 s2 : Str} (h1 : s1.length ≤ 1000 := by decide) (h2 : s2.length ≤ 1000 := by decide) : Msg IntN (fun σ H Q => tJs [tC (.str s1), tFmtN (tVar 1), tC (.str s2)] Str.empty σ H fun out H1 => Q (.str out) H1) := fun a v H Q hv q => by
  have e0 : Str.empty.length = 0 := rfl
  have en : ("None" : Str).length = 4 := by decide
  have sl : ∀ {n : Nat}, n ≤ 100000 → n ≤ sizeLine := sz5
  rcases hv with rfl | ⟨i, rfl, hi⟩
  · exact ⟨s1, rfl, sl (by rw [PySem.Str.length_append]; omega), _, rfl, .inl ⟨rfl, _, rfl, sl (by rw [PySem.Str.length_append, PySem.Str.length_append]; omega), s2, rfl, sl (by rw [PySem.Str.length_append, PySem.Str.length_append, PySem.Str.length_append]; omega), q _⟩⟩
  · have e := itx hi
    exact ⟨s1, rfl, sl (by rw [PySem.Str.length_append]; omega), _, rfl, .inr ⟨i, rfl, hi, Str.ofString (toString i), rfl, sl (by rw [PySem.Str.length_append, PySem.Str.length_append]; omega), s2, rfl, sl (by rw [PySem.Str.length_append, PySem.Str.length_append, PySem.Str.length_append]; omega), q _⟩⟩
theorem msgN_sv {s1 : Str} (h1 : s1.length ≤ 1000 := by decide) : Msg IntN (fun σ H Q => tJs [tC (.str s1), tFmtN (tVar 1)] Str.empty σ H fun out H1 => Q (.str out) H1) := fun a v H Q hv q => by
  have e0 : Str.empty.length = 0 := rfl
  have en : ("None" : Str).length = 4 := by decide
  have sl : ∀ {n : Nat}, n ≤ 100000 → n ≤ sizeLine := sz5
  rcases hv with rfl | ⟨i, rfl, hi⟩
  · exact ⟨s1, rfl, sl (by rw [PySem.Str.length_append]; omega), _, rfl, .inl ⟨rfl, _, rfl, sl (by rw [PySem.Str.length_append, PySem.Str.length_append]; omega), q _⟩⟩
  · have e := itx hi
    exact ⟨s1, rfl, sl (by rw [PySem.Str.length_append]; omega), _, rfl, .inr ⟨i, rfl, hi, Str.ofString (toString i), rfl, sl (by rw [PySem.Str.length_append, PySem.Str.length_append]; omega), q _⟩⟩
/-! ### the same of a named K, w -/
section
variable {X : Cx} {K : PySem.W.Frag} {w : World} {o e : Expr} {es : List Expr} {to : TE} {t : TA} {apos cpos : Pos}
theorem cr_sortedUK (h : X.K = K) : CallR X (.builtin "sorted") (rSortedU K) := by subst h; exact cr_sortedU
theorem cr_lenSetW (h : X.w = w) : CallR X (.builtin "len") (rLenSet w) := by subst h; exact cr_lenSet
theorem cr_set0W (h : X.w = w) : CallR X (.type "set") (rSet0 w) := by subst h; exact cr_set0
theorem or_sinW (h : X.w = w) : OpR X (compareOp .In) (rSIn w) := by subst h; exact or_sin
theorem or_snotinW (h : X.w = w) : OpR X (compareOp .NotIn) (rSNotIn w) := by subst h; exact or_snotin
theorem pe_saddW (h : X.w = w) (ho : PE X o to) (ha : PA X (e :: es) t)
    (hbase : attributeBase o "add" X.env (eval o X.env) = eval o X.env := by rfl)
    (hfew : ((backTo cpos (starEach (e :: es) X.env)).all (fun x => !x.1) && (backToKw cpos (keywordEach [] X.env)).all (fun x => x.1.isSome)
      && decide ((e :: es).length + ([] : List Keyword).length + (if ([] : List Keyword).isEmpty then 0 else 1) < 30)) = true := by rfl)
    (hline : (apos.endLine == cpos.line) = true := by rfl) (hs : starEach (e :: es) X.env = (false, eval e X.env) :: starEach es X.env := by rfl) (hplain : (backTo cpos (starEach es X.env)).any (·.1) = false := by rfl) :
    PE X (.Call (.Attribute o "add" apos) (e :: es) [] cpos) (tSAdd w to t) := by
  subst h
  exact pe_sadd ho ha hbase hfew hline hs hplain
end
theorem nonN {K : PySem.W.Frag} {F : Fz} {H : Hp} {v : V} (h : DV K F H v .non) : IntN v := by
  cases h
  exact .inl rfl
theorem intN {K : PySem.W.Frag} {F : Fz} {H : Hp} {v : V} {n : Int} (h : DV K F H v (.int n)) (hz : n.natAbs.log2 < 1920) : IntN v := by
  cases h
  exact .inr ⟨n, rfl, hz⟩
theorem Lek.trans : ∀ {a b c : Env3}, Lek a b → Lek b c → Lek a c
  | [], [], [], _, _ => trivial
  | _ :: _, _ :: _, _ :: _, ⟨h1, h2⟩, ⟨g1, g2⟩ => ⟨by
      rcases g1 with rfl | rfl
      · exact h1
      · exact .inr rfl, Lek.trans h2 g2⟩
  | [], [], _ :: _, _, h => h.elim
  | [], _ :: _, _, h, _ => h.elim
  | _ :: _, [], _, h, _ => h.elim
  | _ :: _, _ :: _, [], _, h => h.elim
theorem evx_tup {K : PySem.W.Frag} {B : Bs} {δ : Env3} {tA : TA} (h : Eax K B δ tA) : Evx K B δ (tTup tA) := fun σ F H Q S lb => h σ F H _ S lb
theorem eqP_non : eqP .non .non = true := by
  unfold eqP
  simp [toP, PyData.eqv]
end L3
set_option Elab.async false
set_option linter.all false
set_option maxRecDepth 100000
set_option maxHeartbeats 4000000
/-! Comprehensions of two walks; tuples counted, put together; xs[i] op= e. -/
namespace L3
open PySem PySem.Spec PyProof.Rows L2
section
variable {K : PySem.W.Frag} {F F' F0 F1 : Fz} {H H' H0 H1 B B' : Hp} {δ : Env3} {σ : L2.St}
mutual
theorem TrR.reb : ∀ (t : Tr) {v : V} {as : List Addr}, (∀ a ∈ as, B a = none → B' a = none) → TrR K F H B t v as → TrR K F H B' t v as
  | .d x, _, _, _, r => by
    cases r with
    | d r => exact .d r
  | .l ts, _, _, h, r => by
    cases r with
    | l h1 h2 h3 h4 => exact .l h1 h2 (h _ List.mem_cons_self h3) (TrRs.reb ts (fun a ha => h a (List.mem_cons_of_mem _ ha)) h4)
  | .t ts, _, _, h, r => by
    cases r with
    | t h1 h2 => exact .t h1 (TrRs.reb ts h h2)
theorem TrRs.reb : ∀ (ts : List Tr) {vs : List V} {as : List Addr}, (∀ a ∈ as, B a = none → B' a = none) → TrRs K F H B ts vs as → TrRs K F H B' ts vs as
  | [], _, _, _, r => by
    cases r
    exact .nil
  | u :: ts, _, _, h, r => by
    cases r with
    | cons h1 h2 => exact .cons (TrR.reb u (fun a ha => h a (List.mem_append_left _ ha)) h1) (TrRs.reb ts (fun a ha => h a (List.mem_append_right _ ha)) h2)
end
theorem Rows.reb : ∀ {as : List Addr} {rows : List (List D)}, (∀ a ∈ as, B a = none → B' a = none) → Rows K F H B as rows → Rows K F H B' as rows
  | _, _, _, .nil => .nil
  | _, _, h, .cons h1 h2 h3 h4 h5 => .cons h1 h2 h3 (h _ List.mem_cons_self h4) (Rows.reb (fun a ha => h a (List.mem_cons_of_mem _ ha)) h5)
theorem SlR.reb {s : Sl} {v : Option V} {as : List Addr} (h : ∀ a ∈ as, B a = none → B' a = none) (r : SlR K F H B s v as) : SlR K F H B' s v as := by
  cases r with
  | tr r => exact .tr (TrR.reb _ h r)
  | un v => exact .un v
  | d r => exact .d r
  | own h1 h2 h3 h4 h5 => exact .own h1 h2 h3 (h _ List.mem_cons_self h4) h5
  | ll h1 h2 h3 h4 => exact .ll h1 h2 (h _ List.mem_cons_self h3) (Rows.reb (fun a ha => h a (List.mem_cons_of_mem _ ha)) h4)
  | hole h1 h2 h3 h4 h5 => exact .hole h1 h2 (h _ List.mem_cons_self h3) (Rows.reb (fun a ha => h a (List.mem_cons_of_mem _ (List.mem_append_left _ ha))) h4) (Rows.reb (fun a ha => h a (List.mem_cons_of_mem _ (List.mem_append_right _ ha))) h5)
theorem Sls.reb : ∀ {δ : Env3} {σ : L2.St} {as : List Addr}, (∀ a ∈ as, B a = none → B' a = none) → Sls K F H B δ σ as → Sls K F H B' δ σ as
  | _, _, _, _, .nil => .nil
  | _, _, _, h, .cons h1 h2 => .cons (h1.reb fun a ha => h a (List.mem_append_left _ ha)) (Sls.reb (fun a ha => h a (List.mem_append_right _ ha)) h2)
/-- an object laid since is taken into the base -/
theorem Sta.base {D : Addr} {o : HO} (S : Sta K F0 H0 δ σ F1 H1) (hD : H1 D = none) (g : Gr F1 H1 F' H') (eD : H' D = some o) (nf : ¬ F' D) : Sta K F0 (upd H0 D o) δ σ F' H' := by
  obtain ⟨as, h, nd⟩ := S.sl
  have ne : ∀ a ∈ as, a ≠ D := fun a ha z => by
    obtain ⟨⟨u, eu⟩, _, _⟩ := h.at_ a ha
    rw [z, hD] at eu
    cases eu
  have S2 := S.go g
  have h' := Sls.le g.le (fun b hb => by
    obtain ⟨⟨u, eu⟩, nfb, _⟩ := h.at_ b hb
    refine ⟨(g.keep b u eu).trans eu.symm, fun z => ?_⟩
    rcases g.new b z with z | z
    · exact nfb z
    · rw [eu] at z
      cases z) h
  refine ⟨⟨S2.gr.sub, fun a u ea => ?_, fun a fa => ?_, S2.gr.dom⟩, as, h'.reb fun a ha z => by rw [upd_ne (ne a ha)]; exact z, nd⟩
  · by_cases z : a = D
    · subst z
      rw [upd_same] at ea
      rw [eD, ← ea]
    · rw [upd_ne z] at ea
      exact S2.gr.keep a u ea
  · have z : a ≠ D := fun z => nf (z ▸ fa)
    rw [upd_ne z]
    exact S2.gr.new a fa
/-- an object of the base is written -/
theorem Sta.mutB {D : Addr} {o o' : HO} (S : Sta K F0 H0 δ σ F H) (eD : H0 D = some o) (ow : OwnO o) (nf : ¬ F D) : Sta K F0 (upd H0 D o') δ σ F (upd H D o') ∧ Le F H F (upd H D o') := by
  have eH := S.gr.keep D o eD
  have l : Le F H F (upd H D o') := Le.mut nf eH ow
  obtain ⟨as, h, nd⟩ := S.sl
  have ne : ∀ a ∈ as, a ≠ D := fun a ha z => by
    obtain ⟨_, _, e0⟩ := h.at_ a ha
    rw [z, eD] at e0
    cases e0
  have h' := Sls.le l (fun b hb => ⟨upd_ne (ne b hb), (h.at_ b hb).2.1⟩) h
  refine ⟨⟨⟨S.gr.sub, fun a u ea => ?_, fun a fa => ?_, fun a fa => ?_⟩, as, h'.reb fun a ha z => by rw [upd_ne (ne a ha)]; exact z, nd⟩, l⟩
  · by_cases z : a = D
    · subst z
      rw [upd_same] at ea ⊢
      exact ea
    · rw [upd_ne z] at ea ⊢
      exact S.gr.keep a u ea
  · have z : a ≠ D := fun z => nf (z ▸ fa)
    rw [upd_ne z]
    exact S.gr.new a fa
  · obtain ⟨u, eu⟩ := S.gr.dom a fa
    exact ⟨u, l.keep a u fa eu⟩
end
section
variable {K : PySem.W.Frag} {δ : Env3} {te : TE} {d : D}
theorem flat_step {α : Type} {r : Nat → List α} {i : Nat} : (List.range (i + 1)).flatMap r = (List.range i).flatMap r ++ r i := by
  rw [List.range_succ, List.flatMap_append]
  simp
theorem evl_lc2 {wi wi1 : TI} {g g1 : TG} {tt tt1 : TT} {own vs1 js js1 : List Nat} {n : Nat} {item : Nat → D} (m : Nat → Nat) (item1 : Nat → Nat → D) (p : Nat → Nat → Bool) (e : Nat → Nat → D) (hs : Src K δ wi n item)
    (hz : ∀ i j, i < n → j ≤ m i → ((List.range i).flatMap (fun i => ((List.range (m i)).filter (p i)).map (e i)) ++ ((List.range j).filter (p i)).map (e i)).length < 100000) (hj : ∀ j ∈ js, j ∈ own) (hj1 : ∀ j ∈ js1, j ∈ vs1)
    (hb : ∀ i, i < n → GD K js g (item i) (wipeD δ own) fun δ2 => Evt K δ2 tt true ∧ Src K δ2 wi1 (m i) (item1 i) ∧ ∀ j, j < m i → GD K js1 g1 (item1 i j) (wipeD δ2 vs1) fun δ3 => Evt K δ3 tt1 (p i j) ∧ (p i j = true → Ev K δ3 te (e i j))) :
    Evl K δ (tLc2 wi g tt wi1 g1 tt1 te own vs1) ((List.range n).flatMap fun i => ((List.range (m i)).filter (p i)).map (e i)) := fun F0 H0 σ F H S Q q =>
  hs F0 H0 σ F H S _ fun J F1 H1 g1 ok D hD => by
    have S1 := S.go g1
    have nFD : ¬ F1 D := fun z => by
      obtain ⟨o, e1⟩ := g1.dom D z
      rw [hD] at e1
      cases e1
    generalize hr : (fun i => ((List.range (m i)).filter (p i)).map (e i)) = r at *
    have hri : ∀ i, r i = ((List.range (m i)).filter (p i)).map (e i) := fun i => by rw [← hr]
    refine ⟨fun i k H' => k = n - i ∧ i ≤ n ∧ ∃ F' vs, Gr F1 H1 F' H' ∧ ¬ F' D ∧ H' D = some (.lst vs) ∧ DVs K F' H' vs ((List.range i).flatMap r),
      ⟨n, rfl, Nat.zero_le _, F1, [], (Gr.refl g1.dom).upd hD, nFD, upd_same, .nil⟩, ?_⟩
    rintro i k H' ⟨rfl, hi, F', vs, gr, nf, eD, rv⟩
    by_cases hlt : i < n
    · refine .inr ⟨ok.go i F' H' hlt gr.le, fun H'' => i + 1 ≤ n ∧ ∃ F' vs, Gr F1 H1 F' H'' ∧ ¬ F' D ∧ H'' D = some (.lst vs) ∧ DVs K F' H'' vs ((List.range (i + 1)).flatMap r), fun H'' h => ⟨n - (i + 1), by omega, rfl, h⟩, fun x H2 y => ?_⟩
      obtain ⟨g2, r2⟩ := ok.yld i x F' H' H2 hlt gr.le gr.dom y
      have g12 := gr.trans g2
      have eD2 := g2.keep _ _ eD
      have rv2 := DVs.le g2.le _ _ rv
      have S2 := sta_wipe (S1.base hD g12 eD2 nf) own
      refine hb i hlt F0 (upd H0 D (.lst vs)) (wipe σ own) F' H2 x S2 r2 _ fun δ2 σ2 pp S3 w2 => ⟨(w2 own hj).trans (wipe_wipe σ own), ?_⟩
      obtain ⟨ht, hs1, hin⟩ := pp
      refine ht F0 (upd H0 D (.lst vs)) σ2 F' H2 S3 _ fun F3 H3 g3 => ?_
      rw [if_pos rfl]
      refine hs1 F0 (upd H0 D (.lst vs)) σ2 F3 H3 (S3.go g3) _ fun J1 F4 H4 g4 ok1 => ?_
      have S4 := (S3.go g3).go g4
      have g34 := g3.trans g4
      have eD4 := g34.keep _ _ eD2
      have nf4 : ¬ F4 D := fun z => by
        rcases g34.new D z with z | z
        · exact nf z
        · rw [eD2] at z
          cases z
      have dm4 := S4.gr.dom
      refine ⟨fun j k H' => k = m i - j ∧ j ≤ m i ∧ ∃ F' vs, Le F4 H4 F' H' ∧ Gr F1 H1 F' H' ∧ ¬ F' D ∧ H' D = some (.lst vs) ∧ DVs K F' H' vs ((List.range i).flatMap r ++ ((List.range j).filter (p i)).map (e i)) ∧ Sta K F0 (upd H0 D (.lst vs)) δ2 σ2 F' H',
        ⟨m i, rfl, Nat.zero_le _, F4, vs, (Gr.refl dm4).le, g12.trans g34, nf4, eD4, by simpa using DVs.le g34.le _ _ rv2, S4⟩, ?_⟩
      rintro j k H5 ⟨rfl, hjm, F5, ws, l5, gr5, nf5, eD5, rv5, S5⟩
      by_cases hlt2 : j < m i
      · refine .inr ⟨ok1.go j F5 H5 hlt2 l5, fun H'' => j + 1 ≤ m i ∧ ∃ F' vs, Le F4 H4 F' H'' ∧ Gr F1 H1 F' H'' ∧ ¬ F' D ∧ H'' D = some (.lst vs) ∧ DVs K F' H'' vs ((List.range i).flatMap r ++ ((List.range (j + 1)).filter (p i)).map (e i)) ∧ Sta K F0 (upd H0 D (.lst vs)) δ2 σ2 F' H'', fun H'' h => ⟨m i - (j + 1), by omega, rfl, h⟩, fun x H6 y => ?_⟩
        obtain ⟨g6, r6⟩ := ok1.yld j x F5 H5 H6 hlt2 l5 S5.gr.dom y
        have S6 := S5.go g6
        have eD6 := g6.keep _ _ eD5
        have rv6 := DVs.le g6.le _ _ rv5
        refine hin j hlt2 F0 (upd H0 D (.lst ws)) (wipe σ2 vs1) F5 H6 x (sta_wipe S6 vs1) r6 _ fun δ3 σ3 pp3 S7 w3 => ⟨(w3 vs1 hj1).trans (wipe_wipe σ2 vs1), ?_⟩
        obtain ⟨ht3, he3⟩ := pp3
        refine ht3 F0 (upd H0 D (.lst ws)) σ3 F5 H6 S7 _ fun F8 H8 g8 => ?_
        have nofr : ∀ {F8 : Fz} {H8 : Hp}, Gr F5 H6 F8 H8 → ¬ F8 D := fun g8 z => by
          rcases g8.new D z with z | z
          · exact nf5 z
          · rw [eD6] at z
            cases z
        cases hp : p i j with
        | true =>
          rw [if_pos rfl]
          refine he3 hp F0 (upd H0 D (.lst ws)) σ3 F8 H8 (S7.go g8) _ fun v F9 H9 g9 r9 => ?_
          have g89 := g8.trans g9
          have eD9 := g89.keep _ _ eD6
          have nf9 := nofr g89
          obtain ⟨S9, l9⟩ := (S6.go g89).mutB (o' := .lst (ws ++ [v])) upd_same trivial nf9
          rw [upd_upd] at S9
          have gr9 := (gr5.trans g6).trans g89
          refine ⟨ws, eD9, ?_, hlt2, F9, ws ++ [v], ((l5.trans g6.le).trans g89.le).trans l9, ⟨gr9.sub, fun a o ea => ?_, gr9.new, fun a ha => ?_⟩, nf9, upd_same, ?_, S9⟩
          · have z1 := rv5.length
            have z2 := hz i j hlt (Nat.le_of_lt hlt2)
            rw [z1]
            exact sz5l z2
          · rw [upd_ne (ne_of_none ea hD)]
            exact gr9.keep a o ea
          · obtain ⟨o, eo⟩ := gr9.dom a ha
            exact ⟨o, l9.keep a o ha eo⟩
          · rw [range_step, hp, if_pos rfl, ← List.append_assoc]
            exact DVs.append (DVs.le (Le.trans g89.le l9) _ _ rv6) (.one (DV.le l9 _ _ r9))
        | false =>
          rw [if_neg Bool.false_ne_true]
          refine ⟨hlt2, F8, ws, (l5.trans g6.le).trans g8.le, (gr5.trans g6).trans g8, nofr g8, g8.keep _ _ eD6, ?_, S6.go g8⟩
          rw [range_step, hp, if_neg Bool.false_ne_true, List.append_nil]
          exact DVs.le g8.le _ _ rv6
      · have ej : j = m i := by omega
        subst ej
        refine .inl ⟨ok1.stop F5 H5 l5, hlt, F5, ws, gr5, nf5, eD5, ?_⟩
        rw [flat_step, hri i]
        exact rv5
    · have ei : i = n := by omega
      subst ei
      exact .inl ⟨ok.stop F' H' gr.le, q D vs F' H' (g1.trans gr) (g1.back hD) nf eD rv⟩
end
section
variable {K : PySem.W.Frag} {δ : Env3} {te ta tb : TE} {α : Type}
theorem flat_getD {β : Type} (l : List α) (z : α) (f : α → List β) : ((List.range l.length).flatMap fun i => f (l.getD i z)) = l.flatMap f := by
  have h := L3.range_map l z f
  rw [List.flatMap_def, List.flatMap_def, h]
/-- .. over encoded items and numbers -/
theorem evl_lc2R {wi wi1 : TI} {g g1 : TG} {tt tt1 : TT} {own vs1 js js1 : List Nat} {l : List α} (enc : α → D) (n1 : Nat) (p : α → Nat → Bool) (e : α → Nat → D) (hs : Src K δ wi (l.map enc).length fun i => (l.map enc).getD i .non)
    (hz : l.length * n1 < 100000) (hj : ∀ j ∈ js, j ∈ own) (hj1 : ∀ j ∈ js1, j ∈ vs1)
    (hb : ∀ a, a ∈ l → GD K js g (enc a) (wipeD δ own) fun δ2 => Evt K δ2 tt true ∧ Src K δ2 wi1 n1 (fun j => .int (j : Nat)) ∧ ∀ j, j < n1 → GD K js1 g1 (.int (j : Nat)) (wipeD δ2 vs1) fun δ3 => Evt K δ3 tt1 (p a j) ∧ (p a j = true → Ev K δ3 te (e a j))) :
    Evl K δ (tLc2 wi g tt wi1 g1 tt1 te own vs1) (l.flatMap fun a => ((List.range n1).filter (p a)).map (e a)) := by
  cases l with
  | nil =>
    have h := evl_lc2 (te := te) (tt := tt) (tt1 := tt1) (wi1 := wi1) (g := g) (g1 := g1) (own := own) (vs1 := vs1) (js := js) (js1 := js1) (fun _ => 0) (fun _ _ => .non) (fun _ _ => true) (fun _ _ => .non) hs (fun i j hi => absurd hi (Nat.not_lt_zero i)) hj hj1 (fun i hi => absurd hi (Nat.not_lt_zero i))
    exact h
  | cons a0 l =>
    generalize hL : a0 :: l = L at *
    have hl : (L.map enc).length = L.length := List.length_map _
    have hlen : ∀ i, ((List.range i).flatMap fun i => ((List.range n1).filter (p (L.getD i a0))).map (e (L.getD i a0))).length ≤ i * n1 := by
      intro i
      induction i with
      | zero => simp
      | succ i ih =>
        rw [flat_step, List.length_append, Nat.succ_mul, List.length_map]
        have := List.length_filter_le (p (L.getD i a0)) (List.range n1)
        rw [List.length_range] at this
        omega
    have h := evl_lc2 (te := te) (tt := tt) (tt1 := tt1) (wi1 := wi1) (g := g) (g1 := g1) (own := own) (vs1 := vs1) (js := js) (js1 := js1) (fun _ => n1) (fun _ j => .int (j : Nat)) (fun i => p (L.getD i a0)) (fun i => e (L.getD i a0)) hs (fun i j hi hjm => by
      rw [hl] at hi
      have h1 := hlen i
      have h2 := List.length_filter_le (p (L.getD i a0)) (List.range j)
      rw [List.length_range] at h2
      have h3 : i * n1 + n1 ≤ L.length * n1 := by
        rw [← Nat.succ_mul]
        exact Nat.mul_le_mul_right _ hi
      rw [List.length_append, List.length_map]
      omega) hj hj1 (fun i hi => by
      rw [hl] at hi
      have hm : L.getD i a0 ∈ L := by
        rw [List.getD_eq_getElem?_getD, List.getElem?_eq_getElem hi]
        exact List.getElem_mem hi
      have e1 : (L.map enc).getD i .non = enc (L.getD i a0) := by
        simp [List.getD_eq_getElem?_getD, hi]
      rw [e1]
      exact hb _ hm)
    rw [hl, flat_getD L a0 (fun a => ((List.range n1).filter (p a)).map (e a))] at h
    exact h
/-! ### tuples -/
theorem ev_catT {l m : List α} {f : α → D} (ha : Ev K δ ta (eT f l)) (hb : Ev K δ tb (eT f m)) (hz : l.length + m.length ≤ 100000) : Ev K δ (tOp (rCatA K) ta tb) (eT f (l ++ m)) := fun F0 H0 σ F H S Q q =>
  ha F0 H0 σ F H S _ fun v F1 H1 g1 r1 => hb F0 H0 σ F1 H1 (S.go g1) _ fun u F2 H2 g2 r2 => by
    cases r1 with
    | @tup a vs _ h1 h2 =>
      cases r2 with
      | @tup b us _ h3 h4 =>
        have h1' := sqt_le g2.le h1
        have h2' := DVs.le g2.le _ _ h2
        refine ⟨a, b, vs, us, rfl, rfl, h1', h3, ?_, fun z => ?_, fun z z2 => ?_, fun z z2 p hp => ?_⟩
        · have e1 := h2.length
          have e2 := h4.length
          rw [List.length_map] at e1 e2
          exact sz5 (by omega)
        · have e1 := h2.length
          rw [z, List.length_map] at e1
          have e2 : l = [] := List.eq_nil_of_length_eq_zero e1.symm
          subst e2
          exact q _ F2 H2 (g1.trans g2) (.tup h3 h4)
        · have e1 := h4.length
          rw [z2, List.length_map] at e1
          have e2 : m = [] := List.eq_nil_of_length_eq_zero e1.symm
          subst e2
          refine q _ F2 H2 (g1.trans g2) ?_
          rw [List.append_nil]
          exact .tup h1' h2'
        · refine q _ F2 _ ((g1.trans g2).upd hp) ?_
          have l3 := ((Gr.refl g2.dom).upd (o := .tup (vs ++ us)) hp).le
          show DV K F2 _ _ (.tup ((l ++ m).map f))
          rw [List.map_append]
          exact .tup (SqT.of upd_same) ((DVs.le l3 _ _ h2').append (DVs.le l3 _ _ h4))
end
end L3
set_option Elab.async false
set_option linter.all false
set_option maxRecDepth 100000
set_option maxHeartbeats 4000000
/-! Methods of lists; list(range(..)); sorted(.., reverse=True); in. -/
namespace L3
open PySem PySem.Spec PyProof.Rows L2
/-! ### rules of the kit by K -/
section
variable {X : Cx} {K : PySem.W.Frag} {o e e2 : Expr} {es : List Expr} {to : TE} {tA : TA} {apos cpos : Pos}
abbrev rInsert : V → List V → Hp → VK → Prop := fun x vs H Q => ∃ (l : Addr) (xs : List V) (i : Int) (y : V), x = .ref l ∧ vs = [.int i, y] ∧ H l = some (.lst xs) ∧ xs.length < sizeLine ∧ 0 ≤ i ∧ i < 2 ^ 63 ∧ Q .non (upd H l (.lst (xs.take i.toNat ++ [y] ++ xs.drop i.toNat)))
abbrev FewB (X : Cx) (es : List Expr) (cpos : Pos) : Prop := ((backTo cpos (starEach es X.env)).all (fun x => !x.1) && (backToKw cpos (keywordEach [] X.env)).all (fun x => x.1.isSome)
      && decide (es.length + ([] : List Keyword).length + (if ([] : List Keyword).isEmpty then 0 else 1) < 30)) = true
theorem pe_popAtK (h : X.K = K) (ho : PE X o to) (ha : PA X (e :: es) tA) (hbase : attributeBase o "pop" X.env (eval o X.env) = eval o X.env := by rfl) (hfew : FewB X (e :: es) cpos := by rfl)
    (hline : (apos.endLine == cpos.line) = true := by rfl) (hs : starEach (e :: es) X.env = (false, eval e X.env) :: starEach es X.env := by rfl) (hplain : (backTo cpos (starEach es X.env)).any (·.1) = false := by rfl) :
    PE X (.Call (.Attribute o "pop" apos) (e :: es) [] cpos) (tBM K "list" rPopAt to tA) := by subst h; exact pe_bm PySem.F.plainAttrs_list PySem.F.slot_list_pop PySem.F.type_list_pop mt_popAt ho ha hbase hfew hline hs hplain
theorem pe_insertK (h : X.K = K) (ho : PE X o to) (ha : PA X (e :: es) tA) (hbase : attributeBase o "insert" X.env (eval o X.env) = eval o X.env := by rfl) (hfew : FewB X (e :: es) cpos := by rfl)
    (hline : (apos.endLine == cpos.line) = true := by rfl) (hs : starEach (e :: es) X.env = (false, eval e X.env) :: starEach es X.env := by rfl) (hplain : (backTo cpos (starEach es X.env)).any (·.1) = false := by rfl) :
    PE X (.Call (.Attribute o "insert" apos) (e :: es) [] cpos) (tBM K "list" rInsert to tA) := by subst h; exact pe_bm PySem.F.plainAttrs_list PySem.F.slot_list_insert PySem.F.type_list_insert mt_insert ho ha hbase hfew hline hs hplain
theorem pe_indexK (h : X.K = K) (ho : PE X o to) (ha : PA X (e :: es) tA) (hbase : attributeBase o "index" X.env (eval o X.env) = eval o X.env := by rfl) (hfew : FewB X (e :: es) cpos := by rfl)
    (hline : (apos.endLine == cpos.line) = true := by rfl) (hs : starEach (e :: es) X.env = (false, eval e X.env) :: starEach es X.env := by rfl) (hplain : (backTo cpos (starEach es X.env)).any (·.1) = false := by rfl) :
    PE X (.Call (.Attribute o "index" apos) (e :: es) [] cpos) (tBM K "list" (rIndex K) to tA) := by subst h; exact pe_bm PySem.F.plainAttrs_list PySem.F.slot_list_index PySem.F.type_list_index mt_index ho ha hbase hfew hline hs hplain
theorem pe_removeK (h : X.K = K) (ho : PE X o to) (ha : PA X (e :: es) tA) (hbase : attributeBase o "remove" X.env (eval o X.env) = eval o X.env := by rfl) (hfew : FewB X (e :: es) cpos := by rfl)
    (hline : (apos.endLine == cpos.line) = true := by rfl) (hs : starEach (e :: es) X.env = (false, eval e X.env) :: starEach es X.env := by rfl) (hplain : (backTo cpos (starEach es X.env)).any (·.1) = false := by rfl) :
    PE X (.Call (.Attribute o "remove" apos) (e :: es) [] cpos) (tBM K "list" rRemI to tA) := by subst h; exact pe_bm PySem.F.plainAttrs_list PySem.F.slot_list_remove PySem.F.type_list_remove mt_remove ho ha hbase hfew hline hs hplain
theorem pe_reverseK (h : X.K = K) (ho : PE X o to) (hbase : attributeBase o "reverse" X.env (eval o X.env) = eval o X.env := by rfl) (hline : (apos.endLine == cpos.line) = true := by rfl) :
    PE X (.Call (.Attribute o "reverse" apos) [] [] cpos) (tBM0 K "list" rReverse to) := by subst h; exact pe_bm0 PySem.F.plainAttrs_list PySem.F.slot_list_reverse PySem.F.type_list_reverse mt_reverse ho hbase hline
theorem cr_sortedRevK {b : Bool} (h : X.K = K) : CallRK X (.builtin "sorted") [Str.ofString "reverse"] (rSortedKw K b [.bl b]) := by subst h; exact cr_sortedRev
theorem op_catAK (h : X.K = K) : OpR X (binaryOp .Add) (rCatA K) := by subst h; exact op_catA
end
/-! ### statements -/
section
variable {K : PySem.W.Frag} {B : Bs} {δ : Env3} {te tb tk : TE} {D' : De} {i j : Nat} {d : D} {xs ys : List D} {n : Int}
theorem popat {ws : List V} {F : Fz} {H : Hp} (r : DVs K F H ws ys) (h0 : 0 ≤ n) (h1 : n < ys.length) (hz : ys.length ≤ 100000) : -(2 ^ 63) ≤ n ∧ n < 2 ^ 63 ∧ seqIndex? n ws.length = some n.toNat ∧ ∃ y, ws[n.toNat]? = some y ∧ DV K F H y (ys.getD n.toNat .non) := by
  have hl := r.length
  have hn : n.toNat < ws.length := by omega
  refine ⟨by omega, by omega, ?_, ws[n.toNat], List.getElem?_eq_getElem hn, item_at r (List.getElem?_eq_getElem hn)⟩
  unfold seqIndex?
  simp only [if_neg (show ¬ n < 0 by omega)]
  rw [if_pos (by simp; omega)]
theorem DVs.eraseIdx {F : Fz} {H : Hp} : ∀ {ws : List V} {ys : List D} (k : Nat), DVs K F H ws ys → DVs K F H (ws.eraseIdx k) (ys.eraseIdx k)
  | _, _, _, .nil => .nil
  | _, _, 0, .cons _ h => h
  | _, _, k + 1, .cons h1 h2 => .cons h1 (DVs.eraseIdx k h2)
/-- y.pop(n) at the slot j: what stands behind it -/
theorem Sta.pop {F0 F : Fz} {H0 H : Hp} {σ : L2.St} (S : Sta K F0 H0 δ σ F H) (h : δ[j]? = some (.own (.lst ys))) (h0 : 0 ≤ n) (h1 : n < ys.length) (hz : ys.length ≤ 100000) : ∃ b ws y, σ[j]? = some (some (.ref b)) ∧ H b = some (.lst ws) ∧ -(2 ^ 63) ≤ n ∧ n < 2 ^ 63 ∧ seqIndex? n ws.length = some n.toNat ∧ ws[n.toNat]? = some y ∧
    DV K F (upd H b (.lst (ws.eraseIdx n.toNat))) y (ys.getD n.toNat .non) ∧ Sta K F0 H0 (δ.set j (.own (.lst (ys.eraseIdx n.toNat)))) σ F (upd H b (.lst (ws.eraseIdx n.toNat))) ∧ Le F H F (upd H b (.lst (ws.eraseIdx n.toNat))) := by
  obtain ⟨b, o, e1, e2, ⟨ws, rfl, r⟩, nf, _, wr⟩ := S.own h
  obtain ⟨k1, k2, k3, y, k4, k5⟩ := popat r h0 h1 hz
  have l : Le F H F (upd H b (.lst (ws.eraseIdx n.toNat))) := Le.mut nf e2 trivial
  obtain ⟨S2, l2⟩ := wr (.lst (ws.eraseIdx n.toNat)) (.lst (ys.eraseIdx n.toNat)) ⟨_, rfl, DVs.eraseIdx _ (DVs.le l _ _ r)⟩
  exact ⟨b, ws, y, e1, e2, k1, k2, k3, k4, DV.le l _ _ k5, S2, l2⟩
/-- v = y.pop(e) -/
theorem s_setPop (h : δ[j]? = some (.own (.lst ys))) (hk : Ev K δ tk (.int n)) (h0 : 0 ≤ n) (h1 : n < ys.length) (hz : ys.length ≤ 100000) (k : D'.nx ((δ.set j (.own (.lst (ys.eraseIdx n.toNat)))).set i (.d (ys.getD n.toNat .non)))) :
    SD K B (tAsg (tBM K "list" rPopAt (tVar j) (tCons tk tNil)) (gName i)) δ D' := fun σ F H Dn S L => by
  obtain ⟨b, o, e1, e2, ⟨vs, rfl, _⟩, _⟩ := S.own h
  refine ⟨_, e1, .inl ⟨rfl, vs, SqL.of e2⟩, hk _ _ σ F H S _ fun v F1 H1 g1 r1 => ?_⟩
  cases r1
  obtain ⟨b2, ws, y, e3, e4, k1, k2, k3, k4, k5, S2, l2⟩ := (S.go g1).pop h h0 h1 hz
  rw [e1] at e3
  cases e3
  exact ⟨b, ws, n, _, y, rfl, rfl, e4, k1, k2, k3, k4, L.nx _ _ F1 _ k (S2.setd i k5) (g1.le.trans l2)⟩
/-- x.append(y.pop(e)) -/
theorem s_appPop (hi : δ[i]? = some (.own (.lst xs))) (h : δ[j]? = some (.own (.lst ys))) (hij : i ≠ j) (hk : Ev K δ tk (.int n)) (h0 : 0 ≤ n) (h1 : n < ys.length) (hz : ys.length ≤ 100000) (hx : xs.length < 100000)
    (k : D'.nx ((δ.set j (.own (.lst (ys.eraseIdx n.toNat)))).set i (.own (.lst (xs ++ [ys.getD n.toNat .non]))))) : SD K B (tDrop (tBM K "list" rAppend (tVar i) (tCons (tBM K "list" rPopAt (tVar j) (tCons tk tNil)) tNil))) δ D' := fun σ F H Dn S L => by
  obtain ⟨a, oa, ea, eA, ⟨us, rfl, _⟩, _⟩ := S.own hi
  obtain ⟨b, o, e1, e2, ⟨vs, rfl, _⟩, _⟩ := S.own h
  refine ⟨_, ea, .inl ⟨rfl, us, SqL.of eA⟩, _, e1, .inl ⟨rfl, vs, SqL.of e2⟩, hk _ _ σ F H S _ fun v F1 H1 g1 r1 => ?_⟩
  cases r1
  obtain ⟨b2, ws, y, e3, e4, k1, k2, k3, k4, k5, S2, l2⟩ := (S.go g1).pop h h0 h1 hz
  rw [e1] at e3
  cases e3
  refine ⟨b, ws, n, _, y, rfl, rfl, e4, k1, k2, k3, k4, ?_⟩
  have hi2 : (δ.set j (.own (.lst (ys.eraseIdx n.toNat))))[i]? = some (.own (.lst xs)) := by
    rw [List.getElem?_set_ne (fun z => hij z.symm)]
    exact hi
  obtain ⟨a2, o2, e5, e6, ⟨zs, rfl, rz⟩, nf, _, wr⟩ := S2.own hi2
  rw [ea] at e5
  cases e5
  have l : Le F1 _ F1 (upd (upd H1 b (.lst (ws.eraseIdx n.toNat))) a (.lst (zs ++ [y]))) := Le.mut nf e6 trivial
  obtain ⟨S3, l3⟩ := wr (.lst (zs ++ [y])) (.lst (xs ++ [ys.getD n.toNat .non])) ⟨_, rfl, (DVs.le l _ _ rz).append (.one (DV.le l _ _ k5))⟩
  exact ⟨a, zs, y, rfl, rfl, e6, by rw [rz.length]; exact sz5l hx, L.nx _ _ F1 _ k S3 ((g1.le.trans l2).trans l3)⟩
/-- x.insert(e, e2) -/
theorem s_insert (h : δ[i]? = some (.own (.lst xs))) (hk : Ev K δ tk (.int n)) (he : Ev K δ te d) (h0 : 0 ≤ n) (h1 : n ≤ 100000) (hz : xs.length < 100000) (k : D'.nx (δ.set i (.own (.lst (xs.take n.toNat ++ [d] ++ xs.drop n.toNat))))) :
    SD K B (tDrop (tBM K "list" rInsert (tVar i) (tCons tk (tCons te tNil)))) δ D' := fun σ F H Dn S L => by
  obtain ⟨a, o, e1, e2, ⟨vs, rfl, r⟩, _⟩ := S.own h
  refine ⟨_, e1, .inl ⟨rfl, vs, SqL.of e2⟩, hk _ _ σ F H S _ fun u F1 H1 g1 r1 => ?_⟩
  cases r1
  refine he _ _ σ F1 H1 (S.go g1) _ fun v F2 H2 g2 r2 => ?_
  obtain ⟨a2, o2, e3, e4, ⟨ws, rfl, rw'⟩, nf, _, wr⟩ := ((S.go g1).go g2).own h
  rw [e1] at e3
  cases e3
  have l : Le F2 H2 F2 (upd H2 a (.lst (ws.take n.toNat ++ [v] ++ ws.drop n.toNat))) := Le.mut nf e4 trivial
  have rl := DVs.le l _ _ rw'
  obtain ⟨S2, l2⟩ := wr (.lst (ws.take n.toNat ++ [v] ++ ws.drop n.toNat)) (.lst (xs.take n.toNat ++ [d] ++ xs.drop n.toNat)) ⟨_, rfl, (DVs.append (DVs.append (DVs.take _ rl) (.one (DV.le l _ _ r2))) (DVs.drop _ rl))⟩
  exact ⟨a, ws, n, v, rfl, rfl, e4, by rw [rw'.length]; exact sz5l hz, h0, by omega, L.nx _ _ F2 _ k S2 ((g1.trans g2).le.trans l2)⟩
/-! ### values -/
/-- list(range(e)) -/
theorem evl_lrng {n : Nat} (h : Ev K δ te (.int (n : Int))) (hz : n ≤ 100000) : Evl K δ (tLstRg (tRg1 te)) ((List.range n).map fun k => .int (k : Nat)) := fun F0 H0 σ F H S Q q => h F0 H0 σ F H S _ fun v F1 H1 g1 r1 => by
  cases r1
  refine ⟨_, rfl, RgOk.of_le (by omega) (by omega) (by omega) (by omega), fun p hp => ?_⟩
  have e : rgV 0 (n : Int) = ((List.range n).map fun k : Nat => (k : Int)).map V.int := by
    unfold rgV
    rw [List.map_map, show ((n : Int) - 0).toNat = n by omega]
    exact List.map_congr_left fun k _ => by simp
  rw [e]
  have nf : ¬ F1 p := fun z => by
    obtain ⟨o, e1⟩ := g1.dom p z
    rw [hp] at e1
    cases e1
  refine q p _ F1 _ (g1.upd hp) (g1.back hp) nf upd_same ?_
  have r : DVs K F1 (upd H1 p (.lst (((List.range n).map fun k : Nat => (k : Int)).map V.int))) (((List.range n).map fun k : Nat => (k : Int)).map V.int) (((List.range n).map fun k : Nat => (k : Int)).map D.int) := DVs.ints _
  rw [List.map_map (g := D.int)] at r
  exact r
/-- sorted(xs, reverse=True) -/
theorem evl_sortedRev {ns : List Int} (h : Ev K δ te (.lst (ns.map D.int))) : Evl K δ (tCKw (rSortedKw K true [.bl true]) (tCons te tNil) (tCons (tC (.bl true)) tNil)) ((sortI ns).reverse.map D.int) := fun F0 H0 σ F H S Q q => h F0 H0 σ F H S _ fun v F1 H1 g1 r1 => by
  cases r1 with
  | lst h1 h2 h3 =>
    have e := DVs.of_ints h3
    subst e
    refine ⟨_, ns, rfl, rfl, SqL.of h2, fun ms p hp hs hn => ?_⟩
    have e : ms = (sortI ns).reverse := by
      have h4 : ms.reverse = sortI ns := sortI_eq ((List.reverse_perm ms).trans hp) (List.pairwise_reverse.mpr hs)
      rw [← h4, List.reverse_reverse]
    subst e
    exact (new_l g1 (DVs.ints _) q) p hn
end
end L3
set_option Elab.async false
set_option linter.all false
set_option maxRecDepth 100000
set_option maxHeartbeats 4000000
/-! An inner list of an own list of lists under a name of its own: lent, written, given back. -/
namespace L3
open PySem PySem.Spec PyProof.Rows L2
section
variable {K : PySem.W.Frag} {F F' F0 : Fz} {H H' H0 : Hp} {δ : Env3} {σ : L2.St} {s : Sl}
/-- a slot's reading is exchanged, with what it owns -/
theorem Sls.swap : ∀ {δ : Env3} {σ : L2.St} {as : List Addr} (i : Nat), Sls K F H H0 δ σ as → as.Nodup → δ[i]? = some s →
    ∃ v bs, σ[i]? = some v ∧ SlR K F H H0 s v bs ∧ bs.Nodup ∧ (∀ b ∈ bs, b ∈ as) ∧ ∀ s' bs', SlR K F H H0 s' v bs' → bs'.Nodup → (∀ x ∈ bs', x ∈ bs ∨ x ∉ as) →
      ∃ as', Sls K F H H0 (δ.set i s') σ as' ∧ as'.Nodup ∧ ∀ x ∈ as', (x ∈ as ∧ x ∉ bs) ∨ x ∈ bs'
  | _, _, _, _, .nil, _, e => by simp at e
  | _, _, _, 0, .cons (v := v) (as := bs) (bs := cs) h1 h2, nd, e => by
    obtain rfl := Option.some.inj (by simpa using e)
    obtain ⟨n1, n2, n3⟩ := List.nodup_append.mp nd
    refine ⟨v, bs, rfl, h1, n1, fun b hb => List.mem_append_left _ hb, fun s' bs' r nb hs => ⟨bs' ++ cs, .cons r h2, List.nodup_append.mpr ⟨nb, n2, fun x hx y hy z => ?_⟩, fun x hx => ?_⟩⟩
    · rcases hs x hx with w | w
      · exact n3 x w y hy z
      · exact w (List.mem_append_right _ (z ▸ hy))
    · rcases List.mem_append.mp hx with w | w
      · exact .inr w
      · exact .inl ⟨List.mem_append_right _ w, fun z => n3 x z x w rfl⟩
  | _, _, _, i + 1, .cons (as := ps) (bs := cs) h1 h2, nd, e => by
    obtain ⟨n1, n2, n3⟩ := List.nodup_append.mp nd
    obtain ⟨v, bs, e1, r, nb, hb, k⟩ := Sls.swap i h2 n2 (by simpa using e)
    refine ⟨v, bs, by simpa using e1, r, nb, fun b h => List.mem_append_right _ (hb b h), fun s' bs' r' nb' hs => ?_⟩
    obtain ⟨as', q1, q2, q3⟩ := k s' bs' r' nb' fun x hx => (hs x hx).imp id fun z w => z (List.mem_append_right _ w)
    refine ⟨ps ++ as', .cons h1 q1, List.nodup_append.mpr ⟨n1, q2, fun x hx y hy z => ?_⟩, fun x hx => ?_⟩
    · subst z
      rcases q3 x hy with w | w
      · exact n3 x hx x w.1 rfl
      · rcases hs x w with u | u
        · exact n3 x hx x (hb x u) rfl
        · exact u (List.mem_append_left _ hx)
    · rcases List.mem_append.mp hx with w | w
      · exact .inl ⟨List.mem_append_left _ w, fun z => n3 x w x (hb x z) rfl⟩
      · exact (q3 x w).imp (fun z => ⟨List.mem_append_right _ z.1, z.2⟩) id
theorem Rows.split : ∀ {as : List Addr} {rows : List (List D)} (n : Nat) {x : List D}, Rows K F H H0 as rows → rows[n]? = some x →
    ∃ cs b ds vs, as = cs ++ b :: ds ∧ cs.length = n ∧ Rows K F H H0 cs (rows.take n) ∧ Rows K F H H0 ds (rows.drop (n + 1)) ∧ H b = some (.lst vs) ∧ DVs K F H vs x ∧ ¬ F b ∧ H0 b = none
  | _, _, _, _, .nil, e => by simp at e
  | _, _, 0, _, .cons (a := a) (as := as) h1 h2 h3 h4 h5, e => by
    obtain rfl := Option.some.inj (by simpa using e)
    exact ⟨[], a, as, _, rfl, rfl, .nil, h5, h1, h2, h3, h4⟩
  | _, _, n + 1, _, .cons (a := a) h1 h2 h3 h4 h5, e => by
    obtain ⟨cs, b, ds, vs, e1, e2, r1, r2, w⟩ := Rows.split n h5 (by simpa using e)
    exact ⟨a :: cs, b, ds, vs, by rw [e1]; rfl, by simp [e2], .cons h1 h2 h3 h4 r1, r2, w⟩
theorem Rows.join : ∀ {cs : List Addr} {r1 : List (List D)} {ds : List Addr} {r2 : List (List D)}, Rows K F H H0 cs r1 → Rows K F H H0 ds r2 → Rows K F H H0 (cs ++ ds) (r1 ++ r2)
  | _, _, _, _, .nil, h => h
  | _, _, _, _, .cons h1 h2 h3 h4 h5, h => .cons h1 h2 h3 h4 (Rows.join h5 h)
/-- lent -/
theorem Sta.lend {rows : List (List D)} {x : List D} {i j n : Nat} (S : Sta K F0 H0 δ σ F H) (h : δ[j]? = some (.ll rows)) (hx : rows[n]? = some x) (ij : i ≠ j) :
    ∃ (a : Addr) (as : List Addr) (b : Addr), σ[j]? = some (some (.ref a)) ∧ H a = some (.lst (as.map V.ref)) ∧ as[n]? = some b ∧ as.length = rows.length ∧ Sta K F0 H0 ((δ.set j (.hole (rows.take n) b (rows.drop (n + 1)))).set i (.ow (some b) (.lst x))) (σ.set i (some (.ref b))) F H := by
  obtain ⟨ps, hs, nd⟩ := S.sl
  obtain ⟨v, bs, e1, r, nb, hb, k⟩ := hs.swap j nd h
  cases r with
  | @ll a as _ h1 h2 h3 h4 =>
    obtain ⟨cs, b, ds, vs, q1, q2, r1, r2, eb, rb, fb, hb0⟩ := Rows.split n h4 hx
    subst q1
    obtain ⟨m1, m2⟩ := List.nodup_cons.mp nb
    obtain ⟨u1, u2, u3⟩ := List.nodup_append.mp m2
    obtain ⟨w1, w2⟩ := List.nodup_cons.mp u2
    have nin : b ∉ a :: (cs ++ ds) := fun z => by
      rcases List.mem_cons.mp z with rfl | z
      · exact m1 (List.mem_append_right _ List.mem_cons_self)
      · rcases List.mem_append.mp z with z | z
        · exact u3 b z b List.mem_cons_self rfl
        · exact w1 z
    obtain ⟨as', g1, g2, g3⟩ := k (.hole (rows.take n) b (rows.drop (n + 1))) (a :: (cs ++ ds)) (.hole h1 h2 h3 r1 r2)
      (List.nodup_cons.mpr ⟨fun z => m1 ((List.mem_append.mp z).elim (fun z => List.mem_append_left _ z) fun z => List.mem_append_right _ (List.mem_cons_of_mem _ z)), List.nodup_append.mpr ⟨u1, w2, fun x hx y hy z => u3 x hx y (List.mem_cons_of_mem _ hy) z⟩⟩)
      fun x hx => .inl ((List.mem_cons.mp hx).elim (fun z => z ▸ List.mem_cons_self) fun z => List.mem_cons_of_mem _ ((List.mem_append.mp z).elim (fun z => List.mem_append_left _ z) fun z => List.mem_append_right _ (List.mem_cons_of_mem _ z)))
    have nb' : b ∉ as' := fun z => by
      rcases g3 b z with w | w
      · exact w.2 (List.mem_cons_of_mem _ (List.mem_append_right _ List.mem_cons_self))
      · exact nin w
    obtain ⟨as2, g4, g5, _⟩ := g1.set (.own (q := some b) (c := .lst x) eb ⟨vs, rfl, rb⟩ fb hb0 (fun c z => (Option.some.inj z).symm)) (List.nodup_cons.mpr ⟨by simp, List.nodup_nil⟩) i g2 fun c hc => by
      obtain rfl : c = b := by simpa using hc
      exact nb'
    refine ⟨a, cs ++ b :: ds, b, e1, h1, ?_, h4.len, S.gr, as2, g4, g5⟩
    rw [List.getElem?_append_right (by omega), q2]
    simp
/-- given back -/
theorem Sta.back {r1 r2 : List (List D)} {b : Addr} {x : List D} {i j : Nat} (S : Sta K F0 H0 δ σ F H) (h : δ[j]? = some (.hole r1 b r2)) (hi : δ[i]? = some (.ow (some b) (.lst x))) (ij : i ≠ j) :
    Sta K F0 H0 ((δ.set i .un).set j (.ll (r1 ++ x :: r2))) σ F H := by
  obtain ⟨ps, hs, nd⟩ := S.sl
  obtain ⟨v, bs, e1, r, nb, hb, k⟩ := hs.swap i nd hi
  cases r with
  | @own a o _ _ h1 h2 h3 h4 h5 =>
    obtain rfl := h5 b rfl
    obtain ⟨vs, rfl, rv⟩ := h2
    obtain ⟨as', g1, g2, g3⟩ := k .un [] (.un _) List.nodup_nil fun x hx => by cases hx
    have nb' : b ∉ as' := fun z => by
      rcases g3 b z with w | w
      · exact w.2 List.mem_cons_self
      · cases w
    have h' : (δ.set i .un)[j]? = some (.hole r1 b r2) := by rw [List.getElem?_set_ne ij]; exact h
    obtain ⟨v2, cs, e2, q, nc, hc, k2⟩ := g1.swap j g2 h'
    cases q with
    | @hole a' _ as bs _ _ f1 f2 f3 f4 f5 =>
      obtain ⟨m1, m2⟩ := List.nodup_cons.mp nc
      obtain ⟨u1, u2, u3⟩ := List.nodup_append.mp m2
      have bn : b ∉ a' :: (as ++ bs) := fun z => nb' (hc b z)
      obtain ⟨as2, g4, g5, _⟩ := k2 (.ll (r1 ++ x :: r2)) (a' :: (as ++ b :: bs)) (.ll f1 f2 f3 (Rows.join f4 (.cons h1 rv h3 h4 f5)))
        (List.nodup_cons.mpr ⟨fun z => by
          rcases List.mem_append.mp z with z | z
          · exact m1 (List.mem_append_left _ z)
          · rcases List.mem_cons.mp z with z | z
            · exact bn (z ▸ List.mem_cons_self)
            · exact m1 (List.mem_append_right _ z), List.nodup_append.mpr ⟨u1, List.nodup_cons.mpr ⟨fun z => bn (List.mem_cons_of_mem _ (List.mem_append_right _ z)), u2⟩, fun x hx y hy z => by
              subst z
              rcases List.mem_cons.mp hy with rfl | hy
              · exact bn (List.mem_cons_of_mem _ (List.mem_append_left _ hx))
              · exact u3 x hx x hy rfl⟩⟩)
        fun y hy => by
          rcases List.mem_cons.mp hy with rfl | hy
          · exact .inl List.mem_cons_self
          · rcases List.mem_append.mp hy with hy | hy
            · exact .inl (List.mem_cons_of_mem _ (List.mem_append_left _ hy))
            · rcases List.mem_cons.mp hy with rfl | hy
              · exact .inr nb'
              · exact .inl (List.mem_cons_of_mem _ (List.mem_append_right _ hy))
      exact ⟨S.gr, as2, g4, g5⟩
end
section
variable {K : PySem.W.Frag} {B : Bs} {δ : Env3} {te tb tk : TE} {D' : De} {i j : Nat} {d : D} {x xs : List D} {rows r1 r2 : List (List D)} {q : Option Addr}
/-- v = m[k]: the inner list is lent to v -/
theorem s_lend {k : Int} {n : Nat} (h : δ[j]? = some (.ll rows)) (hk : Ev K δ tk (.int k)) (hn : ixN rows.length k = some n) (hx : rows[n]? = some x) (ij : i ≠ j)
    (kk : ∀ b, D'.nx ((δ.set j (.hole (rows.take n) b (rows.drop (n + 1)))).set i (.ow (some b) (.lst x)))) : SD K B (tAsg (tOp (rIxL K) (tVar j) tk) (gName i)) δ D' := fun σ F H Dn S L => by
  obtain ⟨a, as, b, e1, _⟩ := S.lend h hx ij
  refine ⟨_, e1, hk _ _ σ F H S _ fun v F1 H1 g1 r1 => ?_⟩
  cases r1
  obtain ⟨a2, as2, b2, e3, e4, e5, e6, S2⟩ := (S.go g1).lend h hx ij
  rw [e1] at e3
  cases e3
  refine ⟨a, as2.map V.ref, k, .ref b2, rfl, rfl, SqL.of e4, ?_, L.nx _ _ F1 H1 (kk b2) S2 g1.le⟩
  unfold atI
  rw [List.length_map, e6, hn]
  show (as2.map V.ref)[n]? = _
  rw [List.getElem?_map, e5]
  rfl
/-- xs[k] = e, an own list (lent or not) -/
theorem s_setq {k : Int} {m : Nat} (h : δ[i]? = some (.ow q (.lst xs))) (he : Ev K δ te d) (hi : Ev K δ tb (.int k)) (hj : ixN xs.length k = some m) (kk : D'.nx (δ.set i (.ow q (.lst (xs.set m d))))) : SD K B (tAsg te (gSub (tVar i) tb rSetL)) δ D' := fun σ F H Dn S L =>
  he _ _ σ F H S _ fun v F1 H1 g1 r1 => by
    obtain ⟨a, o, e1, _⟩ := (S.go g1).ow h
    refine ⟨_, e1, hi _ _ σ F1 H1 (S.go g1) _ fun w F2 H2 g2 r2 => ?_⟩
    cases r2
    obtain ⟨a2, o2, e3, e4, ⟨ws, rfl, rw'⟩, nf, h0, _, wr⟩ := ((S.go g1).go g2).ow h
    rw [e1] at e3
    cases e3
    have l : Le F2 H2 F2 (upd H2 a (.lst (ws.set m v))) := Le.mut nf e4 trivial
    obtain ⟨S2, l2⟩ := wr (.lst (ws.set m v)) (.lst (xs.set m d)) ⟨_, rfl, DVs.set m (DVs.le l _ _ rw') (DV.le (g2.le.trans l) _ _ r1)⟩
    exact ⟨a, ws, k, m, rfl, rfl, e4, by rw [rw'.length]; exact hj, L.nx _ _ F2 _ kk S2 ((g1.le.trans g2.le).trans l2)⟩
/-- the same, and the list is given back -/
theorem s_setBack {b : Addr} {k : Int} {m : Nat} (hj : δ[j]? = some (.hole r1 b r2)) (h : δ[i]? = some (.ow (some b) (.lst xs))) (ij : i ≠ j) (he : Ev K δ te d) (hi : Ev K δ tb (.int k)) (hm : ixN xs.length k = some m)
    (kk : D'.nx ((δ.set i .un).set j (.ll (r1 ++ xs.set m d :: r2)))) : SD K B (tAsg te (gSub (tVar i) tb rSetL)) δ D' := by
  have z := s_setq (K := K) (B := B) (D' := { D' with nx := fun δ2 => δ2 = δ.set i (.ow (some b) (.lst (xs.set m d))) }) h he hi hm rfl
  intro σ F H Dn S L
  refine z σ F H Dn S { L with nx := fun δ2 σ2 F2 H2 e S2 l => ?_ }
  have e : δ2 = δ.set i (.ow (some b) (.lst (xs.set m d))) := e
  subst e
  have S3 := S2.back (i := i) (j := j) (x := xs.set m d) (by rw [List.getElem?_set_ne ij]; exact hj) (by rw [List.getElem?_set_self (List.getElem?_eq_some_iff.mp h).1]) ij
  rw [List.set_set] at S3
  exact L.nx _ σ2 F2 H2 kk S3 l
/-- given back, ahead of what follows -/
theorem s_back {b : Addr} {ts : TS} (hj : δ[j]? = some (.hole r1 b r2)) (h : δ[i]? = some (.ow (some b) (.lst xs))) (ij : i ≠ j) (k : SD K B ts ((δ.set i .un).set j (.ll (r1 ++ xs :: r2))) D') : SD K B ts δ D' := fun σ F H Dn S L => k σ F H Dn (S.back hj h ij) L
end
end L3
set_option Elab.async false
set_option linter.all false
set_option maxRecDepth 100000
set_option maxHeartbeats 4000000
/-! len(set(xs)) of any ints. -/
namespace L3
open PySem PySem.Spec PyProof.Rows L2
/-- the items, each once -/
def dst (ns : List Int) : List Int := ns.foldl insS []
theorem fold_dst : ∀ (ns ks : List Int), ns.foldl step_dedup ks = ns.foldl insS ks
  | [], _ => rfl
  | a :: ns, ks => by
    have e : step_dedup ks a = insS ks a := PySem.W.oss_step ks a
    rw [List.foldl_cons, List.foldl_cons, e, fold_dst ns]
theorem met_dst (ns : List Int) : firstMet (fun i => ns.getD i 0) ns.length = dst ns := (PySem.W.oss_met ns).trans (fold_dst ns [])
theorem dst_from : ∀ (ns ks : List Int), ks.Nodup → (ns.foldl insS ks).Nodup ∧ ∀ x, x ∈ ns.foldl insS ks ↔ x ∈ ks ∨ x ∈ ns
  | [], ks, h => ⟨h, fun x => by simp⟩
  | a :: ns, ks, h => by
    obtain ⟨h1, h2⟩ := dst_from ns (insS ks a) (nodup_insS h)
    refine ⟨h1, fun x => (h2 x).trans ?_⟩
    rw [mem_insS, List.mem_cons, or_assoc]
theorem dst_nodup (ns : List Int) : (dst ns).Nodup := (dst_from ns [] List.nodup_nil).1
theorem mem_dst {ns : List Int} {x : Int} : x ∈ dst ns ↔ x ∈ ns := by
  have := (dst_from ns [] List.nodup_nil).2 x
  unfold dst
  simpa using this
theorem nodup_sub : ∀ {l m : List Int}, l.Nodup → (∀ x ∈ l, x ∈ m) → l.length ≤ m.length
  | [], _, _, _ => Nat.zero_le _
  | a :: l, m, h, hs => by
    obtain ⟨h1, h2⟩ := List.nodup_cons.mp h
    have hm : a ∈ m := hs a List.mem_cons_self
    have := nodup_sub (m := m.erase a) h2 fun x hx => by
      have ne : x ≠ a := fun z => h1 (z ▸ hx)
      exact (List.mem_erase_of_ne ne).mpr (hs x (List.mem_cons_of_mem _ hx))
    rw [List.length_erase_of_mem hm] at this
    have := List.length_pos_of_mem hm
    simp only [List.length_cons]
    omega
theorem dst_mono {l m : List Int} (h : ∀ x ∈ l, x ∈ m) : (dst l).length ≤ (dst m).length := nodup_sub (dst_nodup l) fun x hx => mem_dst.mpr (h x (mem_dst.mp hx))
theorem dst_lt {l m : List Int} {a : Int} (h : ∀ x ∈ l, x ∈ m) (ha : a ∈ m) (hn : a ∉ l) : (dst l).length + 1 ≤ (dst m).length := by
  have := nodup_sub (l := a :: dst l) (m := dst m) (List.nodup_cons.mpr ⟨fun z => hn (mem_dst.mp z), dst_nodup l⟩) fun x hx => by
    rcases List.mem_cons.mp hx with rfl | hx
    · exact mem_dst.mpr ha
    · exact mem_dst.mpr (h x (mem_dst.mp hx))
  simpa using this
theorem dst_le (l : List Int) : (dst l).length ≤ l.length := nodup_sub (dst_nodup l) fun x hx => mem_dst.mp hx
def tLenDst (K : PySem.W.Frag) (ta : TE) : TE := fun σ H Q => ta σ H fun v G => ∃ (p : Addr) (zs : List Int), v = .ref p ∧ SqL K G p (zs.map V.int) ∧ zs.length ≤ 4000 ∧ Q (.int ((dst zs).length : Nat)) G
theorem pe_lenDst {X : Cx} {K : PySem.W.Frag} {a : Expr} {ta : TE} {p1 p2 p3 p4 : Pos} (hK : X.K = K) (hg : Gl X "len") (hm : X.mg "len" = none) (hg2 : Gl X "set") (hm2 : X.mg "set" = none) (ha : PE X a ta) (hc : X.calm = true := by rfl)
    (hs : starEach [a] X.env = (false, eval a X.env) :: starEach [] X.env := by rfl) : PE X (.Call (.Name "len" p1) [.Call (.Name "set" p2) [a] [] p3] [] p4) (tLenDst K ta) := by
  subst hK
  constructor
  intro pins s σ H Q I h
  refine PyProof.Rows.Call_ (L2.ld_blt I hg hm boot_len (PyProof.Rows.callWith_builtin1 (PyProof.Rows.args_cons ?_ rfl) rfl rfl))
  refine PyProof.Rows.Call_ (L2.ld_blt I hg2 hm2 PyProof.Rows.boot_set ?_)
  refine PyProof.Rows.callWith_type1 (PyProof.Rows.args_cons (thn (ha.run pins s σ H _ I h) ?_) hs) hs rfl
  rintro v s1 ⟨x, G, J, rx, p, zs, rfl, hq, hl, q⟩
  cases rx
  refine PyProof.Rows.args_nil ?_
  obtain ⟨its, r, pl, hz⟩ := J.list hq
  have n1 : its.length = zs.length := by
    have := r.length
    rw [List.length_map] at this
    exact this.symm
  refine call_set_list (J.ok.hd hc) pl.isList (by simpa using RZ.intsAre_vals r) (by rw [List.size_toArray, n1]; unfold scanBound; omega) fun h' tk hS hk => PyProof.Rows.args_nil ?_
  have n3 : its.toArray.size = zs.length := by rw [List.size_toArray, n1]
  rw [n3, met_dst] at hS
  obtain ⟨o, es, ep, t, ho, hex, hd, _, _, _, hf, hn⟩ := hS
  have n2 := dst_le zs
  have I2 : Inv X pins σ G { s1 with heap := h', toks := tk } := J.kept fun b o e => hk b o (Heap.lt_size e) e
  exact call_len_set ho hex hd hf (by rw [hn]; omega) ⟨.int (dst zs).length, G, I2.tok _, ⟨_, by rw [hn]⟩, q⟩
section
variable {K : PySem.W.Frag} {δ : Env3} {te : TE}
theorem ev_lenDst {ns : List Int} (h : Ev K δ te (.lst (ns.map D.int))) (hz : ns.length ≤ 4000) : Ev K δ (tLenDst K te) (.int ((dst ns).length : Nat)) := fun F0 H0 σ F H S Q q => h F0 H0 σ F H S _ fun v F1 H1 g1 r1 => by
  cases r1 with
  | lst h1 h2 h3 =>
    have e := DVs.of_ints h3
    subst e
    exact ⟨_, ns, rfl, SqL.of h2, hz, q _ F1 H1 g1 (.int _)⟩
theorem inV_ints {k : Int} : ∀ ns : List Int, inV (.int k) (ns.map V.int) = decide (k ∈ ns)
  | [] => by simp [inV]
  | n :: ns => by
    have h := inV_ints (k := k) ns
    unfold inV at h ⊢
    rw [List.map_cons, List.any_cons, h]
    have e : eqV (.int n) (.int k) = decide (k = n) := by
      show (n == k) = _
      rw [Bool.eq_iff_iff, beq_iff_eq, decide_eq_true_iff]
      exact eq_comm
    rw [e, Bool.eq_iff_iff]
    simp
theorem flat_ints : ∀ ns : List Int, (ns.map V.int).all flatV = true
  | [] => rfl
  | n :: ns => by rw [List.map_cons, List.all_cons, flat_ints ns]; rfl
/-- e in xs, ints of a list or a tuple -/
theorem ev_inI {b : Bool} {ta tb : TE} {k : Int} {ns : List Int} (ha : Ev K δ ta (.int k)) (hb : Ev K δ tb (dB b (ns.map D.int))) : Ev K δ (tOp (rIn K false) ta tb) (.bl (decide (k ∈ ns))) := fun F0 H0 σ F H S Q q => ha F0 H0 σ F H S _ fun v F1 H1 g1 r1 => by
  cases r1
  refine hb F0 H0 σ F1 H1 (S.go g1) _ fun u F2 H2 g2 r2 => ?_
  obtain ⟨a, rfl, h2⟩ := sq_ints r2
  refine ⟨a, _, rfl, by cases b with | false => exact .inl h2 | true => exact .inr h2, rfl, flat_ints ns, ?_⟩
  rw [if_neg (by decide), inV_ints]
  exact q _ F2 H2 (g1.trans g2) (.bl _)
theorem ev_ninI {b : Bool} {ta tb : TE} {k : Int} {ns : List Int} (ha : Ev K δ ta (.int k)) (hb : Ev K δ tb (dB b (ns.map D.int))) : Ev K δ (tOp (rIn K true) ta tb) (.bl (!decide (k ∈ ns))) := fun F0 H0 σ F H S Q q => ha F0 H0 σ F H S _ fun v F1 H1 g1 r1 => by
  cases r1
  refine hb F0 H0 σ F1 H1 (S.go g1) _ fun u F2 H2 g2 r2 => ?_
  obtain ⟨a, rfl, h2⟩ := sq_ints r2
  refine ⟨a, _, rfl, by cases b with | false => exact .inl h2 | true => exact .inr h2, rfl, flat_ints ns, ?_⟩
  rw [if_pos rfl, inV_ints]
  exact q _ F2 H2 (g1.trans g2) (.bl _)
end
section
variable {K : PySem.W.Frag} {δ : Env3} {x y z : D}
theorem gd_tup3 {i j k : Nat} {P : Env3 → Prop} (h : P (((δ.set i (.d x)).set j (.d y)).set k (.d z))) : GD K [i, j, k] (gTup K 3 (gCons (gName i) (gCons (gName j) (gCons (gName k) gNil)))) (.tup [x, y, z]) δ P :=
  gd_tup (gds_cons (js := [i]) (ks := [j, k]) (gd_name (gds_cons (js := [j]) (ks := [k]) (gd_name (gds_cons (js := [k]) (ks := []) (gd_name (gds_nil h)))))))
end
end L3
set_option Elab.async false
set_option linter.all false
set_option maxRecDepth 100000
set_option maxHeartbeats 0
namespace G17
open PySem PySem.Spec PyProof.Rows L2
abbrev pw : Program := PySem.Challenge.pw_dealtbychance_k17_prices_judged
def top (i : Nat) : Stmt := PySem.Challenge.pw_dealtbychance_k17_prices_judged.main.body.getD i (.Pass ⟨0, 0, 0, 0⟩)
abbrev s__wall : Stmt := (top 1)
abbrev s_frozen : Stmt := (top 12)
abbrev s_check_size : Stmt := (top 15)
abbrev s_check_order : Stmt := (top 16)
abbrev s__checked_copies : Stmt := (top 17)
abbrev s__ranks : Stmt := (top 18)
abbrev s_check_fit : Stmt := (top 23)
abbrev s_spare : Stmt := (top 24)
abbrev s__agrees : Stmt := (top 27)
abbrev s_shows_prices : Stmt := (top 28)
abbrev s__law_cell : Stmt := (top 30)
abbrev s__law_drawn : Stmt := (top 31)
abbrev s__law_rows : Stmt := (top 32)
abbrev s__law_levels : Stmt := (top 33)
abbrev s__law_moved : Stmt := (top 34)
abbrev s__law_stock : Stmt := (top 35)
abbrev s__law_ranks : Stmt := (top 36)
abbrev s__law_order : Stmt := (top 37)
abbrev s__law_agrees : Stmt := (top 38)
abbrev s__law_due : Stmt := (top 39)
abbrev s__law_papers : Stmt := (top 40)
abbrev s__law_refused : Stmt := (top 41)
abbrev s__law_misfits : Stmt := (top 42)
abbrev s_law : Stmt := (top 43)
abbrev s_Wishes___init__ : Stmt := (inClass (top 19) 0)
abbrev s_Wishes_prefers : Stmt := (inClass (top 19) 2)
abbrev s_Wishes_top : Stmt := (inClass (top 19) 3)
abbrev s_Wishes_is_strict : Stmt := (inClass (top 19) 4)
abbrev s_Grid___init__ : Stmt := (inClass (top 21) 0)
abbrev s_Grid_column : Stmt := (inClass (top 21) 1)
abbrev s_Prices___init__ : Stmt := (inClass (top 26) 0)
abbrev s_Table_column : Stmt := (inClass (top 21) 1)
abbrev s_BadSize___init__ : Stmt := (inClass (top 4) 0)
abbrev s_BadOrder___init__ : Stmt := (inClass (top 5) 0)
abbrev s_BadCopies___init__ : Stmt := (inClass (top 6) 0)
abbrev s_TooFewCopies___init__ : Stmt := (inClass (top 7) 0)
abbrev s_BadWhole___init__ : Stmt := (inClass (top 8) 0)
abbrev s_BadRow___init__ : Stmt := (inClass (top 9) 0)
abbrev s_Misfit___init__ : Stmt := (inClass (top 10) 0)
abbrev s_Table___init__ : Stmt := (inClass (top 22) 0)
abbrev s_Wishes_strict : Stmt := (inClass (top 19) 1)
def d__wall : He.DefD := ⟨("_wall", none), "_wall", "_wall", defArgs s__wall, defBody s__wall, defScope s__wall, [], []⟩
def d_frozen : He.DefD := ⟨("frozen", none), "frozen", "frozen", defArgs s_frozen, defBody s_frozen, defScope s_frozen, [], []⟩
def d_check_size : He.DefD := ⟨("check_size", none), "check_size", "check_size", defArgs s_check_size, defBody s_check_size, defScope s_check_size, [], []⟩
def d_check_order : He.DefD := ⟨("check_order", none), "check_order", "check_order", defArgs s_check_order, defBody s_check_order, defScope s_check_order, [], []⟩
def d__checked_copies : He.DefD := ⟨("_checked_copies", none), "_checked_copies", "_checked_copies", defArgs s__checked_copies, defBody s__checked_copies, defScope s__checked_copies, [], []⟩
def d__ranks : He.DefD := ⟨("_ranks", none), "_ranks", "_ranks", defArgs s__ranks, defBody s__ranks, defScope s__ranks, [], []⟩
def d_check_fit : He.DefD := ⟨("check_fit", none), "check_fit", "check_fit", defArgs s_check_fit, defBody s_check_fit, defScope s_check_fit, [], []⟩
def d_spare : He.DefD := ⟨("spare", none), "spare", "spare", defArgs s_spare, defBody s_spare, defScope s_spare, [], []⟩
def d__agrees : He.DefD := ⟨("_agrees", none), "_agrees", "_agrees", defArgs s__agrees, defBody s__agrees, defScope s__agrees, [], []⟩
def d_shows_prices : He.DefD := ⟨("shows_prices", none), "shows_prices", "shows_prices", defArgs s_shows_prices, defBody s_shows_prices, defScope s_shows_prices, [], []⟩
def d__law_cell : He.DefD := ⟨("_law_cell", none), "_law_cell", "_law_cell", defArgs s__law_cell, defBody s__law_cell, defScope s__law_cell, [], []⟩
def d__law_drawn : He.DefD := ⟨("_law_drawn", none), "_law_drawn", "_law_drawn", defArgs s__law_drawn, defBody s__law_drawn, defScope s__law_drawn, [], []⟩
def d__law_rows : He.DefD := ⟨("_law_rows", none), "_law_rows", "_law_rows", defArgs s__law_rows, defBody s__law_rows, defScope s__law_rows, [], []⟩
def d__law_levels : He.DefD := ⟨("_law_levels", none), "_law_levels", "_law_levels", defArgs s__law_levels, defBody s__law_levels, defScope s__law_levels, [], []⟩
def d__law_moved : He.DefD := ⟨("_law_moved", none), "_law_moved", "_law_moved", defArgs s__law_moved, defBody s__law_moved, defScope s__law_moved, [], []⟩
def d__law_stock : He.DefD := ⟨("_law_stock", none), "_law_stock", "_law_stock", defArgs s__law_stock, defBody s__law_stock, defScope s__law_stock, [], []⟩
def d__law_ranks : He.DefD := ⟨("_law_ranks", none), "_law_ranks", "_law_ranks", defArgs s__law_ranks, defBody s__law_ranks, defScope s__law_ranks, [], []⟩
def d__law_order : He.DefD := ⟨("_law_order", none), "_law_order", "_law_order", defArgs s__law_order, defBody s__law_order, defScope s__law_order, [], []⟩
def d__law_agrees : He.DefD := ⟨("_law_agrees", none), "_law_agrees", "_law_agrees", defArgs s__law_agrees, defBody s__law_agrees, defScope s__law_agrees, [], []⟩
def d__law_due : He.DefD := ⟨("_law_due", none), "_law_due", "_law_due", defArgs s__law_due, defBody s__law_due, defScope s__law_due, [], []⟩
def d__law_papers : He.DefD := ⟨("_law_papers", none), "_law_papers", "_law_papers", defArgs s__law_papers, defBody s__law_papers, defScope s__law_papers, [], []⟩
def d__law_refused : He.DefD := ⟨("_law_refused", none), "_law_refused", "_law_refused", defArgs s__law_refused, defBody s__law_refused, defScope s__law_refused, [], []⟩
def d__law_misfits : He.DefD := ⟨("_law_misfits", none), "_law_misfits", "_law_misfits", defArgs s__law_misfits, defBody s__law_misfits, defScope s__law_misfits, [], []⟩
def d_law : He.DefD := ⟨("law", none), "law", "law", defArgs s_law, defBody s_law, defScope s_law, [], []⟩
def d_Wishes___init__ : He.DefD := ⟨("Wishes", some "__init__"), "__init__", "Wishes.__init__", defArgs s_Wishes___init__, defBody s_Wishes___init__, defScope s_Wishes___init__, [], [("copies", .non)]⟩
def d_Wishes_prefers : He.DefD := ⟨("Wishes", some "prefers"), "prefers", "Wishes.prefers", defArgs s_Wishes_prefers, defBody s_Wishes_prefers, defScope s_Wishes_prefers, [], []⟩
def d_Wishes_top : He.DefD := ⟨("Wishes", some "top"), "top", "Wishes.top", defArgs s_Wishes_top, defBody s_Wishes_top, defScope s_Wishes_top, [], []⟩
def d_Wishes_is_strict : He.DefD := ⟨("Wishes", some "is_strict"), "is_strict", "Wishes.is_strict", defArgs s_Wishes_is_strict, defBody s_Wishes_is_strict, defScope s_Wishes_is_strict, [], []⟩
def d_Grid___init__ : He.DefD := ⟨("Grid", some "__init__"), "__init__", "Grid.__init__", defArgs s_Grid___init__, defBody s_Grid___init__, defScope s_Grid___init__, [], []⟩
def d_Grid_column : He.DefD := ⟨("Grid", some "column"), "column", "Grid.column", defArgs s_Grid_column, defBody s_Grid_column, defScope s_Grid_column, [], []⟩
def d_Prices___init__ : He.DefD := ⟨("Prices", some "__init__"), "__init__", "Prices.__init__", defArgs s_Prices___init__, defBody s_Prices___init__, defScope s_Prices___init__, [], []⟩
def d_Table_column : He.DefD := ⟨("Table", some "column"), "column", "Grid.column", defArgs s_Table_column, defBody s_Table_column, defScope s_Table_column, [], []⟩
def d_Wishes_strict : He.DefD := ⟨("Wishes", some "strict"), "strict", "Wishes.strict", defArgs s_Wishes_strict, defBody s_Wishes_strict, defScope s_Wishes_strict, [], [("copies", .non)]⟩
def d_BadSize___init__ : Sy.SupD := ⟨("BadSize", some "__init__"), "__init__", "BadSize.__init__", defArgs s_BadSize___init__, defBody s_BadSize___init__, defScope s_BadSize___init__⟩
def d_BadOrder___init__ : Sy.SupD := ⟨("BadOrder", some "__init__"), "__init__", "BadOrder.__init__", defArgs s_BadOrder___init__, defBody s_BadOrder___init__, defScope s_BadOrder___init__⟩
def d_BadCopies___init__ : Sy.SupD := ⟨("BadCopies", some "__init__"), "__init__", "BadCopies.__init__", defArgs s_BadCopies___init__, defBody s_BadCopies___init__, defScope s_BadCopies___init__⟩
def d_TooFewCopies___init__ : Sy.SupD := ⟨("TooFewCopies", some "__init__"), "__init__", "TooFewCopies.__init__", defArgs s_TooFewCopies___init__, defBody s_TooFewCopies___init__, defScope s_TooFewCopies___init__⟩
def d_BadWhole___init__ : Sy.SupD := ⟨("BadWhole", some "__init__"), "__init__", "BadWhole.__init__", defArgs s_BadWhole___init__, defBody s_BadWhole___init__, defScope s_BadWhole___init__⟩
def d_BadRow___init__ : Sy.SupD := ⟨("BadRow", some "__init__"), "__init__", "BadRow.__init__", defArgs s_BadRow___init__, defBody s_BadRow___init__, defScope s_BadRow___init__⟩
def d_Misfit___init__ : Sy.SupD := ⟨("Misfit", some "__init__"), "__init__", "Misfit.__init__", defArgs s_Misfit___init__, defBody s_Misfit___init__, defScope s_Misfit___init__⟩
def d_Table___init__ : Sy.SupD := ⟨("Table", some "__init__"), "__init__", "Table.__init__", defArgs s_Table___init__, defBody s_Table___init__, defScope s_Table___init__⟩
def fn : List He.DefD := [d__wall, d_frozen, d_check_size, d_check_order, d__checked_copies, d__ranks, d_check_fit, d_spare, d__agrees, d_shows_prices, d__law_cell, d__law_drawn, d__law_rows, d__law_levels, d__law_moved, d__law_stock, d__law_ranks, d__law_order, d__law_agrees, d__law_due, d__law_papers, d__law_refused, d__law_misfits, d_law, d_Wishes___init__, d_Wishes_prefers, d_Wishes_top, d_Wishes_is_strict, d_Grid___init__, d_Grid_column, d_Prices___init__, d_Table_column]
def st : List He.DefD := [d_Wishes_strict]
def sn : List Sy.SupD := [d_BadSize___init__, d_BadOrder___init__, d_BadCopies___init__, d_TooFewCopies___init__, d_BadWhole___init__, d_BadRow___init__, d_Misfit___init__, d_Table___init__]
def fa : List He.Fa := ([.glo "_wall", .glo "frozen", .glo "check_size", .glo "check_order", .glo "_checked_copies", .glo "_ranks", .glo "check_fit", .glo "spare", .glo "_agrees", .glo "shows_prices", .glo "_law_cell", .glo "_law_drawn", .glo "_law_rows", .glo "_law_levels", .glo "_law_moved", .glo "_law_stock", .glo "_law_ranks", .glo "_law_order", .glo "_law_agrees", .glo "_law_due", .glo "_law_papers", .glo "_law_refused", .glo "_law_misfits", .glo "law", .glo "DealError", .glo "BadSize", .glo "BadOrder", .glo "BadCopies", .glo "TooFewCopies", .glo "BadWhole"] : List He.Fa) ++ ([.glo "BadRow", .glo "Misfit", .glo "Wishes", .glo "Grid", .glo "Table", .glo "Prices", .free "ValueError", .free "abs", .free "all", .free "bool", .free "enumerate", .free "int", .free "isinstance", .free "len", .free "list", .free "max", .free "min", .free "range", .free "set", .free "sorted", .free "staticmethod", .free "sum", .free "super", .free "tuple", .int "MOST" 12, .exm "DealError" "DealError" true, .exm "DealError" "Misfit" false, .exm "BadSize" "DealError" true, .exm "BadSize" "Misfit" false, .exm "BadOrder" "DealError" true] : List He.Fa) ++ ([.exm "BadOrder" "Misfit" false, .exm "BadCopies" "DealError" true, .exm "BadCopies" "Misfit" false, .exm "TooFewCopies" "DealError" true, .exm "TooFewCopies" "Misfit" false, .exm "BadWhole" "DealError" true, .exm "BadWhole" "Misfit" false, .exm "BadRow" "DealError" true, .exm "BadRow" "Misfit" false, .exm "Misfit" "DealError" true, .exm "Misfit" "Misfit" true, .cls "Wishes", .mkr "Wishes", .noat "Wishes" "people", .noat "Wishes" "things", .noat "Wishes" "orders", .noat "Wishes" "copies", .noat "Wishes" "ranks", .meth "Wishes" "prefers", .meth "Wishes" "top", .meth "Wishes" "is_strict", .cls "Grid", .mkr "Grid", .noat "Grid" "people", .noat "Grid" "things", .noat "Grid" "rows", .noat "Grid" "whole", .meth "Grid" "column", .cls "Table", .mkr "Table"] : List He.Fa) ++ ([.noat "Table" "people", .noat "Table" "things", .noat "Table" "rows", .noat "Table" "whole", .meth "Table" "column", .cls "Prices", .mkr "Prices", .noat "Prices" "levels"] : List He.Fa)
def fx : List Sy.Fx := ([.opq, .blt "gcd" "math.gcd", .oex "BadSize", .mro "BadSize" "BadSize", .supx "BadSize", .init "BadSize", .xf "BadSize" "size", .oex "BadOrder", .mro "BadOrder" "BadOrder", .supx "BadOrder", .init "BadOrder", .xf "BadOrder" "person", .oex "BadCopies", .mro "BadCopies" "BadCopies", .supx "BadCopies", .init "BadCopies", .xf "BadCopies" "thing", .oex "TooFewCopies", .mro "TooFewCopies" "TooFewCopies", .supx "TooFewCopies", .init "TooFewCopies", .xf "TooFewCopies" "missing", .oex "BadWhole", .mro "BadWhole" "BadWhole", .supx "BadWhole", .init "BadWhole", .xf "BadWhole" "whole", .oex "BadRow", .mro "BadRow" "BadRow", .supx "BadRow"] : List Sy.Fx) ++ ([.init "BadRow", .xf "BadRow" "person", .oex "Misfit", .mro "Misfit" "Misfit", .supx "Misfit", .init "Misfit", .xf "Misfit" "thing", .ins "Wishes", .mro "Wishes" "Wishes", .ins "Grid", .mro "Grid" "Grid", .ins "Table", .mro "Table" "Table", .mro "Table" "Grid", .sup "Table" "Table" "__init__" "Grid", .ins "Prices", .mro "Prices" "Prices"] : List Sy.Fx)
abbrev R : PySem.W.OpenRow := PySem.W.OpenLaw.row PySem.Challenge.rw_dealtbychance_k17_prices_judged
abbrev file : Str := pw.main.file
abbrev hk : PySem.W.Hook := Sy.hookZ 6 file fa fn sn fx st
def ob (s : PySem.W.SharedT) : Sy.AlZ := Sy.obsZG 6 file fa fn sn fx st (HandSHeadRun.getT s)
theorem ob_eq (s : PySem.W.SharedT) : ob s = hk.obs s.abs := Sy.obsZG_eq (HandSHeadRun.getT_eq s)
def loose : List Str := (["_wall", "DealError", "BadSize", "BadOrder", "BadCopies", "TooFewCopies", "BadWhole", "BadRow", "Misfit", "frozen", "MOST", "check_size", "check_order", "_checked_copies", "_ranks", "Wishes", "Grid", "Table", "check_fit", "spare", "Prices", "_agrees", "shows_prices", "_law_cell", "_law_drawn", "_law_rows", "_law_levels", "_law_moved", "_law_stock", "_law_ranks"] : List Str) ++ (["_law_order", "_law_agrees", "_law_due", "_law_papers", "_law_refused", "_law_misfits"] : List Str)
theorem run (w : World) : HandSHeadRun.RunEqI R (PySem.W.view R.prog [0, 43]) hk ob 60000 loose w := by
  unfold HandSHeadRun.RunEqI
  kernel_rfl
end G17
set_option Elab.async false
set_option linter.all false
set_option maxRecDepth 100000
set_option maxHeartbeats 4000000
set_option exponentiation.threshold 2000
namespace G17
open PySem PySem.Spec PyProof.Rows L2 L3
structure Tx (K : PySem.W.Frag) (mg : Str → Option Value) : Prop where
  h : ∃ h : Heap, K.In h ∧ h.Ns mainGlobals mg
  c : Sy.SaysZ file fa fn sn fx st K
section
variable {K : PySem.W.Frag} {mg : Str → Option Value}
theorem g__wall (T : Tx K mg) : mg "_wall" = some (.ref (He.ga K "_wall")) := by
  obtain ⟨h, X, G⟩ := T.h
  exact He.glo_ok X G (T.c.fact 0 (f := .glo "_wall") rfl)
theorem g_frozen (T : Tx K mg) : mg "frozen" = some (.ref (He.ga K "frozen")) := by
  obtain ⟨h, X, G⟩ := T.h
  exact He.glo_ok X G (T.c.fact 1 (f := .glo "frozen") rfl)
theorem g_check_size (T : Tx K mg) : mg "check_size" = some (.ref (He.ga K "check_size")) := by
  obtain ⟨h, X, G⟩ := T.h
  exact He.glo_ok X G (T.c.fact 2 (f := .glo "check_size") rfl)
theorem g_check_order (T : Tx K mg) : mg "check_order" = some (.ref (He.ga K "check_order")) := by
  obtain ⟨h, X, G⟩ := T.h
  exact He.glo_ok X G (T.c.fact 3 (f := .glo "check_order") rfl)
theorem g__checked_copies (T : Tx K mg) : mg "_checked_copies" = some (.ref (He.ga K "_checked_copies")) := by
  obtain ⟨h, X, G⟩ := T.h
  exact He.glo_ok X G (T.c.fact 4 (f := .glo "_checked_copies") rfl)
theorem g__ranks (T : Tx K mg) : mg "_ranks" = some (.ref (He.ga K "_ranks")) := by
  obtain ⟨h, X, G⟩ := T.h
  exact He.glo_ok X G (T.c.fact 5 (f := .glo "_ranks") rfl)
theorem g_check_fit (T : Tx K mg) : mg "check_fit" = some (.ref (He.ga K "check_fit")) := by
  obtain ⟨h, X, G⟩ := T.h
  exact He.glo_ok X G (T.c.fact 6 (f := .glo "check_fit") rfl)
theorem g_spare (T : Tx K mg) : mg "spare" = some (.ref (He.ga K "spare")) := by
  obtain ⟨h, X, G⟩ := T.h
  exact He.glo_ok X G (T.c.fact 7 (f := .glo "spare") rfl)
theorem g__agrees (T : Tx K mg) : mg "_agrees" = some (.ref (He.ga K "_agrees")) := by
  obtain ⟨h, X, G⟩ := T.h
  exact He.glo_ok X G (T.c.fact 8 (f := .glo "_agrees") rfl)
theorem g_shows_prices (T : Tx K mg) : mg "shows_prices" = some (.ref (He.ga K "shows_prices")) := by
  obtain ⟨h, X, G⟩ := T.h
  exact He.glo_ok X G (T.c.fact 9 (f := .glo "shows_prices") rfl)
theorem g__law_cell (T : Tx K mg) : mg "_law_cell" = some (.ref (He.ga K "_law_cell")) := by
  obtain ⟨h, X, G⟩ := T.h
  exact He.glo_ok X G (T.c.fact 10 (f := .glo "_law_cell") rfl)
theorem g__law_drawn (T : Tx K mg) : mg "_law_drawn" = some (.ref (He.ga K "_law_drawn")) := by
  obtain ⟨h, X, G⟩ := T.h
  exact He.glo_ok X G (T.c.fact 11 (f := .glo "_law_drawn") rfl)
theorem g__law_rows (T : Tx K mg) : mg "_law_rows" = some (.ref (He.ga K "_law_rows")) := by
  obtain ⟨h, X, G⟩ := T.h
  exact He.glo_ok X G (T.c.fact 12 (f := .glo "_law_rows") rfl)
theorem g__law_levels (T : Tx K mg) : mg "_law_levels" = some (.ref (He.ga K "_law_levels")) := by
  obtain ⟨h, X, G⟩ := T.h
  exact He.glo_ok X G (T.c.fact 13 (f := .glo "_law_levels") rfl)
theorem g__law_moved (T : Tx K mg) : mg "_law_moved" = some (.ref (He.ga K "_law_moved")) := by
  obtain ⟨h, X, G⟩ := T.h
  exact He.glo_ok X G (T.c.fact 14 (f := .glo "_law_moved") rfl)
theorem g__law_stock (T : Tx K mg) : mg "_law_stock" = some (.ref (He.ga K "_law_stock")) := by
  obtain ⟨h, X, G⟩ := T.h
  exact He.glo_ok X G (T.c.fact 15 (f := .glo "_law_stock") rfl)
theorem g__law_ranks (T : Tx K mg) : mg "_law_ranks" = some (.ref (He.ga K "_law_ranks")) := by
  obtain ⟨h, X, G⟩ := T.h
  exact He.glo_ok X G (T.c.fact 16 (f := .glo "_law_ranks") rfl)
theorem g__law_order (T : Tx K mg) : mg "_law_order" = some (.ref (He.ga K "_law_order")) := by
  obtain ⟨h, X, G⟩ := T.h
  exact He.glo_ok X G (T.c.fact 17 (f := .glo "_law_order") rfl)
theorem g__law_agrees (T : Tx K mg) : mg "_law_agrees" = some (.ref (He.ga K "_law_agrees")) := by
  obtain ⟨h, X, G⟩ := T.h
  exact He.glo_ok X G (T.c.fact 18 (f := .glo "_law_agrees") rfl)
theorem g__law_due (T : Tx K mg) : mg "_law_due" = some (.ref (He.ga K "_law_due")) := by
  obtain ⟨h, X, G⟩ := T.h
  exact He.glo_ok X G (T.c.fact 19 (f := .glo "_law_due") rfl)
theorem g__law_papers (T : Tx K mg) : mg "_law_papers" = some (.ref (He.ga K "_law_papers")) := by
  obtain ⟨h, X, G⟩ := T.h
  exact He.glo_ok X G (T.c.fact 20 (f := .glo "_law_papers") rfl)
theorem g__law_refused (T : Tx K mg) : mg "_law_refused" = some (.ref (He.ga K "_law_refused")) := by
  obtain ⟨h, X, G⟩ := T.h
  exact He.glo_ok X G (T.c.fact 21 (f := .glo "_law_refused") rfl)
theorem g__law_misfits (T : Tx K mg) : mg "_law_misfits" = some (.ref (He.ga K "_law_misfits")) := by
  obtain ⟨h, X, G⟩ := T.h
  exact He.glo_ok X G (T.c.fact 22 (f := .glo "_law_misfits") rfl)
theorem g_law (T : Tx K mg) : mg "law" = some (.ref (He.ga K "law")) := by
  obtain ⟨h, X, G⟩ := T.h
  exact He.glo_ok X G (T.c.fact 23 (f := .glo "law") rfl)
theorem g_DealError (T : Tx K mg) : mg "DealError" = some (.ref (He.ga K "DealError")) := by
  obtain ⟨h, X, G⟩ := T.h
  exact He.glo_ok X G (T.c.fact 24 (f := .glo "DealError") rfl)
theorem g_BadSize (T : Tx K mg) : mg "BadSize" = some (.ref (He.ga K "BadSize")) := by
  obtain ⟨h, X, G⟩ := T.h
  exact He.glo_ok X G (T.c.fact 25 (f := .glo "BadSize") rfl)
theorem g_BadOrder (T : Tx K mg) : mg "BadOrder" = some (.ref (He.ga K "BadOrder")) := by
  obtain ⟨h, X, G⟩ := T.h
  exact He.glo_ok X G (T.c.fact 26 (f := .glo "BadOrder") rfl)
theorem g_BadCopies (T : Tx K mg) : mg "BadCopies" = some (.ref (He.ga K "BadCopies")) := by
  obtain ⟨h, X, G⟩ := T.h
  exact He.glo_ok X G (T.c.fact 27 (f := .glo "BadCopies") rfl)
theorem g_TooFewCopies (T : Tx K mg) : mg "TooFewCopies" = some (.ref (He.ga K "TooFewCopies")) := by
  obtain ⟨h, X, G⟩ := T.h
  exact He.glo_ok X G (T.c.fact 28 (f := .glo "TooFewCopies") rfl)
theorem g_BadWhole (T : Tx K mg) : mg "BadWhole" = some (.ref (He.ga K "BadWhole")) := by
  obtain ⟨h, X, G⟩ := T.h
  exact He.glo_ok X G (T.c.fact 29 (f := .glo "BadWhole") rfl)
theorem g_BadRow (T : Tx K mg) : mg "BadRow" = some (.ref (He.ga K "BadRow")) := by
  obtain ⟨h, X, G⟩ := T.h
  exact He.glo_ok X G (T.c.fact 30 (f := .glo "BadRow") rfl)
theorem g_Misfit (T : Tx K mg) : mg "Misfit" = some (.ref (He.ga K "Misfit")) := by
  obtain ⟨h, X, G⟩ := T.h
  exact He.glo_ok X G (T.c.fact 31 (f := .glo "Misfit") rfl)
theorem g_Wishes (T : Tx K mg) : mg "Wishes" = some (.ref (He.ga K "Wishes")) := by
  obtain ⟨h, X, G⟩ := T.h
  exact He.glo_ok X G (T.c.fact 32 (f := .glo "Wishes") rfl)
theorem g_Grid (T : Tx K mg) : mg "Grid" = some (.ref (He.ga K "Grid")) := by
  obtain ⟨h, X, G⟩ := T.h
  exact He.glo_ok X G (T.c.fact 33 (f := .glo "Grid") rfl)
theorem g_Table (T : Tx K mg) : mg "Table" = some (.ref (He.ga K "Table")) := by
  obtain ⟨h, X, G⟩ := T.h
  exact He.glo_ok X G (T.c.fact 34 (f := .glo "Table") rfl)
theorem g_Prices (T : Tx K mg) : mg "Prices" = some (.ref (He.ga K "Prices")) := by
  obtain ⟨h, X, G⟩ := T.h
  exact He.glo_ok X G (T.c.fact 35 (f := .glo "Prices") rfl)
theorem f_ValueError (T : Tx K mg) : mg "ValueError" = none := by
  obtain ⟨h, X, G⟩ := T.h
  exact He.free_ok X G (T.c.fact 36 (f := .free "ValueError") rfl)
theorem f_abs (T : Tx K mg) : mg "abs" = none := by
  obtain ⟨h, X, G⟩ := T.h
  exact He.free_ok X G (T.c.fact 37 (f := .free "abs") rfl)
theorem f_all (T : Tx K mg) : mg "all" = none := by
  obtain ⟨h, X, G⟩ := T.h
  exact He.free_ok X G (T.c.fact 38 (f := .free "all") rfl)
theorem f_bool (T : Tx K mg) : mg "bool" = none := by
  obtain ⟨h, X, G⟩ := T.h
  exact He.free_ok X G (T.c.fact 39 (f := .free "bool") rfl)
theorem f_enumerate (T : Tx K mg) : mg "enumerate" = none := by
  obtain ⟨h, X, G⟩ := T.h
  exact He.free_ok X G (T.c.fact 40 (f := .free "enumerate") rfl)
theorem f_int (T : Tx K mg) : mg "int" = none := by
  obtain ⟨h, X, G⟩ := T.h
  exact He.free_ok X G (T.c.fact 41 (f := .free "int") rfl)
theorem f_isinstance (T : Tx K mg) : mg "isinstance" = none := by
  obtain ⟨h, X, G⟩ := T.h
  exact He.free_ok X G (T.c.fact 42 (f := .free "isinstance") rfl)
theorem f_len (T : Tx K mg) : mg "len" = none := by
  obtain ⟨h, X, G⟩ := T.h
  exact He.free_ok X G (T.c.fact 43 (f := .free "len") rfl)
theorem f_list (T : Tx K mg) : mg "list" = none := by
  obtain ⟨h, X, G⟩ := T.h
  exact He.free_ok X G (T.c.fact 44 (f := .free "list") rfl)
theorem f_max (T : Tx K mg) : mg "max" = none := by
  obtain ⟨h, X, G⟩ := T.h
  exact He.free_ok X G (T.c.fact 45 (f := .free "max") rfl)
theorem f_min (T : Tx K mg) : mg "min" = none := by
  obtain ⟨h, X, G⟩ := T.h
  exact He.free_ok X G (T.c.fact 46 (f := .free "min") rfl)
theorem f_range (T : Tx K mg) : mg "range" = none := by
  obtain ⟨h, X, G⟩ := T.h
  exact He.free_ok X G (T.c.fact 47 (f := .free "range") rfl)
theorem f_set (T : Tx K mg) : mg "set" = none := by
  obtain ⟨h, X, G⟩ := T.h
  exact He.free_ok X G (T.c.fact 48 (f := .free "set") rfl)
theorem f_sorted (T : Tx K mg) : mg "sorted" = none := by
  obtain ⟨h, X, G⟩ := T.h
  exact He.free_ok X G (T.c.fact 49 (f := .free "sorted") rfl)
theorem f_staticmethod (T : Tx K mg) : mg "staticmethod" = none := by
  obtain ⟨h, X, G⟩ := T.h
  exact He.free_ok X G (T.c.fact 50 (f := .free "staticmethod") rfl)
theorem f_sum (T : Tx K mg) : mg "sum" = none := by
  obtain ⟨h, X, G⟩ := T.h
  exact He.free_ok X G (T.c.fact 51 (f := .free "sum") rfl)
theorem f_super (T : Tx K mg) : mg "super" = none := by
  obtain ⟨h, X, G⟩ := T.h
  exact He.free_ok X G (T.c.fact 52 (f := .free "super") rfl)
theorem f_tuple (T : Tx K mg) : mg "tuple" = none := by
  obtain ⟨h, X, G⟩ := T.h
  exact He.free_ok X G (T.c.fact 53 (f := .free "tuple") rfl)
theorem c_MOST (T : Tx K mg) : ∃ t, mg "MOST" = some (.int 12 t) := by
  obtain ⟨h, X, G⟩ := T.h
  exact He.int_ok X G (T.c.fact 54 (f := .int "MOST" 12) rfl)
theorem exm_DealError_DealError (T : Tx K mg) : PySem.W.exmOne K (.ref (He.ga K "DealError")) (.ref (He.ga K "DealError")) = some true := He.exm_ok (T.c.fact 55 (f := .exm "DealError" "DealError" true) rfl)
theorem exm_DealError_Misfit (T : Tx K mg) : PySem.W.exmOne K (.ref (He.ga K "DealError")) (.ref (He.ga K "Misfit")) = some false := He.exm_ok (T.c.fact 56 (f := .exm "DealError" "Misfit" false) rfl)
theorem exm_BadSize_DealError (T : Tx K mg) : PySem.W.exmOne K (.ref (He.ga K "BadSize")) (.ref (He.ga K "DealError")) = some true := He.exm_ok (T.c.fact 57 (f := .exm "BadSize" "DealError" true) rfl)
theorem exm_BadSize_Misfit (T : Tx K mg) : PySem.W.exmOne K (.ref (He.ga K "BadSize")) (.ref (He.ga K "Misfit")) = some false := He.exm_ok (T.c.fact 58 (f := .exm "BadSize" "Misfit" false) rfl)
theorem exm_BadOrder_DealError (T : Tx K mg) : PySem.W.exmOne K (.ref (He.ga K "BadOrder")) (.ref (He.ga K "DealError")) = some true := He.exm_ok (T.c.fact 59 (f := .exm "BadOrder" "DealError" true) rfl)
theorem exm_BadOrder_Misfit (T : Tx K mg) : PySem.W.exmOne K (.ref (He.ga K "BadOrder")) (.ref (He.ga K "Misfit")) = some false := He.exm_ok (T.c.fact 60 (f := .exm "BadOrder" "Misfit" false) rfl)
theorem exm_BadCopies_DealError (T : Tx K mg) : PySem.W.exmOne K (.ref (He.ga K "BadCopies")) (.ref (He.ga K "DealError")) = some true := He.exm_ok (T.c.fact 61 (f := .exm "BadCopies" "DealError" true) rfl)
theorem exm_BadCopies_Misfit (T : Tx K mg) : PySem.W.exmOne K (.ref (He.ga K "BadCopies")) (.ref (He.ga K "Misfit")) = some false := He.exm_ok (T.c.fact 62 (f := .exm "BadCopies" "Misfit" false) rfl)
theorem exm_TooFewCopies_DealError (T : Tx K mg) : PySem.W.exmOne K (.ref (He.ga K "TooFewCopies")) (.ref (He.ga K "DealError")) = some true := He.exm_ok (T.c.fact 63 (f := .exm "TooFewCopies" "DealError" true) rfl)
theorem exm_TooFewCopies_Misfit (T : Tx K mg) : PySem.W.exmOne K (.ref (He.ga K "TooFewCopies")) (.ref (He.ga K "Misfit")) = some false := He.exm_ok (T.c.fact 64 (f := .exm "TooFewCopies" "Misfit" false) rfl)
theorem exm_BadWhole_DealError (T : Tx K mg) : PySem.W.exmOne K (.ref (He.ga K "BadWhole")) (.ref (He.ga K "DealError")) = some true := He.exm_ok (T.c.fact 65 (f := .exm "BadWhole" "DealError" true) rfl)
theorem exm_BadWhole_Misfit (T : Tx K mg) : PySem.W.exmOne K (.ref (He.ga K "BadWhole")) (.ref (He.ga K "Misfit")) = some false := He.exm_ok (T.c.fact 66 (f := .exm "BadWhole" "Misfit" false) rfl)
theorem exm_BadRow_DealError (T : Tx K mg) : PySem.W.exmOne K (.ref (He.ga K "BadRow")) (.ref (He.ga K "DealError")) = some true := He.exm_ok (T.c.fact 67 (f := .exm "BadRow" "DealError" true) rfl)
theorem exm_BadRow_Misfit (T : Tx K mg) : PySem.W.exmOne K (.ref (He.ga K "BadRow")) (.ref (He.ga K "Misfit")) = some false := He.exm_ok (T.c.fact 68 (f := .exm "BadRow" "Misfit" false) rfl)
theorem exm_Misfit_DealError (T : Tx K mg) : PySem.W.exmOne K (.ref (He.ga K "Misfit")) (.ref (He.ga K "DealError")) = some true := He.exm_ok (T.c.fact 69 (f := .exm "Misfit" "DealError" true) rfl)
theorem exm_Misfit_Misfit (T : Tx K mg) : PySem.W.exmOne K (.ref (He.ga K "Misfit")) (.ref (He.ga K "Misfit")) = some true := He.exm_ok (T.c.fact 70 (f := .exm "Misfit" "Misfit" true) rfl)
theorem cls_Wishes (T : Tx K mg) : Cls K (He.ga K "Wishes") := He.cls_ok (T.c.fact 71 (f := .cls "Wishes") rfl)
theorem mk_Wishes (T : Tx K mg) : Mk K (He.ga K "Wishes") (He.ma K (He.ga K "Wishes") "__init__") := He.mkr_ok (T.c.fact 72 (f := .mkr "Wishes") rfl)
theorem noat_Wishes_people (T : Tx K mg) : NoAttr K (He.ga K "Wishes") "people" := He.noat_ok (T.c.fact 73 (f := .noat "Wishes" "people") rfl)
theorem noat_Wishes_things (T : Tx K mg) : NoAttr K (He.ga K "Wishes") "things" := He.noat_ok (T.c.fact 74 (f := .noat "Wishes" "things") rfl)
theorem noat_Wishes_orders (T : Tx K mg) : NoAttr K (He.ga K "Wishes") "orders" := He.noat_ok (T.c.fact 75 (f := .noat "Wishes" "orders") rfl)
theorem noat_Wishes_copies (T : Tx K mg) : NoAttr K (He.ga K "Wishes") "copies" := He.noat_ok (T.c.fact 76 (f := .noat "Wishes" "copies") rfl)
theorem noat_Wishes_ranks (T : Tx K mg) : NoAttr K (He.ga K "Wishes") "ranks" := He.noat_ok (T.c.fact 77 (f := .noat "Wishes" "ranks") rfl)
theorem meth_Wishes_prefers (T : Tx K mg) : Meth K (He.ga K "Wishes") "prefers" (He.ma K (He.ga K "Wishes") "prefers") := He.meth_ok (T.c.fact 78 (f := .meth "Wishes" "prefers") rfl)
theorem meth_Wishes_top (T : Tx K mg) : Meth K (He.ga K "Wishes") "top" (He.ma K (He.ga K "Wishes") "top") := He.meth_ok (T.c.fact 79 (f := .meth "Wishes" "top") rfl)
theorem meth_Wishes_is_strict (T : Tx K mg) : Meth K (He.ga K "Wishes") "is_strict" (He.ma K (He.ga K "Wishes") "is_strict") := He.meth_ok (T.c.fact 80 (f := .meth "Wishes" "is_strict") rfl)
theorem cls_Grid (T : Tx K mg) : Cls K (He.ga K "Grid") := He.cls_ok (T.c.fact 81 (f := .cls "Grid") rfl)
theorem mk_Grid (T : Tx K mg) : Mk K (He.ga K "Grid") (He.ma K (He.ga K "Grid") "__init__") := He.mkr_ok (T.c.fact 82 (f := .mkr "Grid") rfl)
theorem noat_Grid_people (T : Tx K mg) : NoAttr K (He.ga K "Grid") "people" := He.noat_ok (T.c.fact 83 (f := .noat "Grid" "people") rfl)
theorem noat_Grid_things (T : Tx K mg) : NoAttr K (He.ga K "Grid") "things" := He.noat_ok (T.c.fact 84 (f := .noat "Grid" "things") rfl)
theorem noat_Grid_rows (T : Tx K mg) : NoAttr K (He.ga K "Grid") "rows" := He.noat_ok (T.c.fact 85 (f := .noat "Grid" "rows") rfl)
theorem noat_Grid_whole (T : Tx K mg) : NoAttr K (He.ga K "Grid") "whole" := He.noat_ok (T.c.fact 86 (f := .noat "Grid" "whole") rfl)
theorem meth_Grid_column (T : Tx K mg) : Meth K (He.ga K "Grid") "column" (He.ma K (He.ga K "Grid") "column") := He.meth_ok (T.c.fact 87 (f := .meth "Grid" "column") rfl)
theorem cls_Table (T : Tx K mg) : Cls K (He.ga K "Table") := He.cls_ok (T.c.fact 88 (f := .cls "Table") rfl)
theorem mk_Table (T : Tx K mg) : Mk K (He.ga K "Table") (He.ma K (He.ga K "Table") "__init__") := He.mkr_ok (T.c.fact 89 (f := .mkr "Table") rfl)
theorem noat_Table_people (T : Tx K mg) : NoAttr K (He.ga K "Table") "people" := He.noat_ok (T.c.fact 90 (f := .noat "Table" "people") rfl)
theorem noat_Table_things (T : Tx K mg) : NoAttr K (He.ga K "Table") "things" := He.noat_ok (T.c.fact 91 (f := .noat "Table" "things") rfl)
theorem noat_Table_rows (T : Tx K mg) : NoAttr K (He.ga K "Table") "rows" := He.noat_ok (T.c.fact 92 (f := .noat "Table" "rows") rfl)
theorem noat_Table_whole (T : Tx K mg) : NoAttr K (He.ga K "Table") "whole" := He.noat_ok (T.c.fact 93 (f := .noat "Table" "whole") rfl)
theorem meth_Table_column (T : Tx K mg) : Meth K (He.ga K "Table") "column" (He.ma K (He.ga K "Table") "column") := He.meth_ok (T.c.fact 94 (f := .meth "Table" "column") rfl)
theorem cls_Prices (T : Tx K mg) : Cls K (He.ga K "Prices") := He.cls_ok (T.c.fact 95 (f := .cls "Prices") rfl)
theorem mk_Prices (T : Tx K mg) : Mk K (He.ga K "Prices") (He.ma K (He.ga K "Prices") "__init__") := He.mkr_ok (T.c.fact 96 (f := .mkr "Prices") rfl)
theorem noat_Prices_levels (T : Tx K mg) : NoAttr K (He.ga K "Prices") "levels" := He.noat_ok (T.c.fact 97 (f := .noat "Prices" "levels") rfl)
theorem fx_opq (T : Tx K mg) : PySem.W.nsIn K cStatics "thirdparty.any" = some none := Sy.fx_opq (T.c.fax 0 (f := .opq) rfl)
theorem fx_gcd (T : Tx K mg) : mg "gcd" = some (.builtin "math.gcd") := by
  obtain ⟨h, X, G⟩ := T.h
  exact Sy.fx_blt X G (T.c.fax 1 (f := .blt "gcd" "math.gcd") rfl)
theorem fx_oex_BadSize (T : Tx K mg) : OexC K (He.ga K "BadSize") := Sy.fx_oex (T.c.fax 2 (f := .oex "BadSize") rfl)
theorem fx_mro_BadSize_BadSize (T : Tx K mg) : PySem.W.mroIn K (He.ga K "BadSize") (.ref (He.ga K "BadSize")) = some true := Sy.fx_mro (T.c.fax 3 (f := .mro "BadSize" "BadSize") rfl)
theorem fx_supx_BadSize (T : Tx K mg) : PySem.W.ks_superIn K (He.ga K "BadSize") (He.ga K "BadSize") "__init__" = some (some (.builtin Sy.veI)) ∧ PySem.W.subIn K (.ref (He.ga K "BadSize")) (.type "ValueError") = some true := Sy.fx_supx (T.c.fax 4 (f := .supx "BadSize") rfl)
theorem fx_init_BadSize (T : Tx K mg) : PySem.W.findIn K (.ref (He.ga K "BadSize")) "__init__" = some (some (.ref (He.ma K (He.ga K "BadSize") "__init__"))) ∧ PySem.W.typeIn K (.ref (He.ma K (He.ga K "BadSize") "__init__")) = some (.type "function") := Sy.fx_init (T.c.fax 5 (f := .init "BadSize") rfl)
theorem fx_xf_BadSize (T : Tx K mg) : XfC K (He.ga K "BadSize") ∧ PySem.W.findIn K (.ref (He.ga K "BadSize")) "size" = some none := Sy.fx_xf (T.c.fax 6 (f := .xf "BadSize" "size") rfl)
theorem fx_oex_BadOrder (T : Tx K mg) : OexC K (He.ga K "BadOrder") := Sy.fx_oex (T.c.fax 7 (f := .oex "BadOrder") rfl)
theorem fx_mro_BadOrder_BadOrder (T : Tx K mg) : PySem.W.mroIn K (He.ga K "BadOrder") (.ref (He.ga K "BadOrder")) = some true := Sy.fx_mro (T.c.fax 8 (f := .mro "BadOrder" "BadOrder") rfl)
theorem fx_supx_BadOrder (T : Tx K mg) : PySem.W.ks_superIn K (He.ga K "BadOrder") (He.ga K "BadOrder") "__init__" = some (some (.builtin Sy.veI)) ∧ PySem.W.subIn K (.ref (He.ga K "BadOrder")) (.type "ValueError") = some true := Sy.fx_supx (T.c.fax 9 (f := .supx "BadOrder") rfl)
theorem fx_init_BadOrder (T : Tx K mg) : PySem.W.findIn K (.ref (He.ga K "BadOrder")) "__init__" = some (some (.ref (He.ma K (He.ga K "BadOrder") "__init__"))) ∧ PySem.W.typeIn K (.ref (He.ma K (He.ga K "BadOrder") "__init__")) = some (.type "function") := Sy.fx_init (T.c.fax 10 (f := .init "BadOrder") rfl)
theorem fx_xf_BadOrder (T : Tx K mg) : XfC K (He.ga K "BadOrder") ∧ PySem.W.findIn K (.ref (He.ga K "BadOrder")) "person" = some none := Sy.fx_xf (T.c.fax 11 (f := .xf "BadOrder" "person") rfl)
theorem fx_oex_BadCopies (T : Tx K mg) : OexC K (He.ga K "BadCopies") := Sy.fx_oex (T.c.fax 12 (f := .oex "BadCopies") rfl)
theorem fx_mro_BadCopies_BadCopies (T : Tx K mg) : PySem.W.mroIn K (He.ga K "BadCopies") (.ref (He.ga K "BadCopies")) = some true := Sy.fx_mro (T.c.fax 13 (f := .mro "BadCopies" "BadCopies") rfl)
theorem fx_supx_BadCopies (T : Tx K mg) : PySem.W.ks_superIn K (He.ga K "BadCopies") (He.ga K "BadCopies") "__init__" = some (some (.builtin Sy.veI)) ∧ PySem.W.subIn K (.ref (He.ga K "BadCopies")) (.type "ValueError") = some true := Sy.fx_supx (T.c.fax 14 (f := .supx "BadCopies") rfl)
theorem fx_init_BadCopies (T : Tx K mg) : PySem.W.findIn K (.ref (He.ga K "BadCopies")) "__init__" = some (some (.ref (He.ma K (He.ga K "BadCopies") "__init__"))) ∧ PySem.W.typeIn K (.ref (He.ma K (He.ga K "BadCopies") "__init__")) = some (.type "function") := Sy.fx_init (T.c.fax 15 (f := .init "BadCopies") rfl)
theorem fx_xf_BadCopies (T : Tx K mg) : XfC K (He.ga K "BadCopies") ∧ PySem.W.findIn K (.ref (He.ga K "BadCopies")) "thing" = some none := Sy.fx_xf (T.c.fax 16 (f := .xf "BadCopies" "thing") rfl)
theorem fx_oex_TooFewCopies (T : Tx K mg) : OexC K (He.ga K "TooFewCopies") := Sy.fx_oex (T.c.fax 17 (f := .oex "TooFewCopies") rfl)
theorem fx_mro_TooFewCopies_TooFewCopies (T : Tx K mg) : PySem.W.mroIn K (He.ga K "TooFewCopies") (.ref (He.ga K "TooFewCopies")) = some true := Sy.fx_mro (T.c.fax 18 (f := .mro "TooFewCopies" "TooFewCopies") rfl)
theorem fx_supx_TooFewCopies (T : Tx K mg) : PySem.W.ks_superIn K (He.ga K "TooFewCopies") (He.ga K "TooFewCopies") "__init__" = some (some (.builtin Sy.veI)) ∧ PySem.W.subIn K (.ref (He.ga K "TooFewCopies")) (.type "ValueError") = some true := Sy.fx_supx (T.c.fax 19 (f := .supx "TooFewCopies") rfl)
theorem fx_init_TooFewCopies (T : Tx K mg) : PySem.W.findIn K (.ref (He.ga K "TooFewCopies")) "__init__" = some (some (.ref (He.ma K (He.ga K "TooFewCopies") "__init__"))) ∧ PySem.W.typeIn K (.ref (He.ma K (He.ga K "TooFewCopies") "__init__")) = some (.type "function") := Sy.fx_init (T.c.fax 20 (f := .init "TooFewCopies") rfl)
theorem fx_xf_TooFewCopies (T : Tx K mg) : XfC K (He.ga K "TooFewCopies") ∧ PySem.W.findIn K (.ref (He.ga K "TooFewCopies")) "missing" = some none := Sy.fx_xf (T.c.fax 21 (f := .xf "TooFewCopies" "missing") rfl)
theorem fx_oex_BadWhole (T : Tx K mg) : OexC K (He.ga K "BadWhole") := Sy.fx_oex (T.c.fax 22 (f := .oex "BadWhole") rfl)
theorem fx_mro_BadWhole_BadWhole (T : Tx K mg) : PySem.W.mroIn K (He.ga K "BadWhole") (.ref (He.ga K "BadWhole")) = some true := Sy.fx_mro (T.c.fax 23 (f := .mro "BadWhole" "BadWhole") rfl)
theorem fx_supx_BadWhole (T : Tx K mg) : PySem.W.ks_superIn K (He.ga K "BadWhole") (He.ga K "BadWhole") "__init__" = some (some (.builtin Sy.veI)) ∧ PySem.W.subIn K (.ref (He.ga K "BadWhole")) (.type "ValueError") = some true := Sy.fx_supx (T.c.fax 24 (f := .supx "BadWhole") rfl)
theorem fx_init_BadWhole (T : Tx K mg) : PySem.W.findIn K (.ref (He.ga K "BadWhole")) "__init__" = some (some (.ref (He.ma K (He.ga K "BadWhole") "__init__"))) ∧ PySem.W.typeIn K (.ref (He.ma K (He.ga K "BadWhole") "__init__")) = some (.type "function") := Sy.fx_init (T.c.fax 25 (f := .init "BadWhole") rfl)
theorem fx_xf_BadWhole (T : Tx K mg) : XfC K (He.ga K "BadWhole") ∧ PySem.W.findIn K (.ref (He.ga K "BadWhole")) "whole" = some none := Sy.fx_xf (T.c.fax 26 (f := .xf "BadWhole" "whole") rfl)
theorem fx_oex_BadRow (T : Tx K mg) : OexC K (He.ga K "BadRow") := Sy.fx_oex (T.c.fax 27 (f := .oex "BadRow") rfl)
theorem fx_mro_BadRow_BadRow (T : Tx K mg) : PySem.W.mroIn K (He.ga K "BadRow") (.ref (He.ga K "BadRow")) = some true := Sy.fx_mro (T.c.fax 28 (f := .mro "BadRow" "BadRow") rfl)
theorem fx_supx_BadRow (T : Tx K mg) : PySem.W.ks_superIn K (He.ga K "BadRow") (He.ga K "BadRow") "__init__" = some (some (.builtin Sy.veI)) ∧ PySem.W.subIn K (.ref (He.ga K "BadRow")) (.type "ValueError") = some true := Sy.fx_supx (T.c.fax 29 (f := .supx "BadRow") rfl)
theorem fx_init_BadRow (T : Tx K mg) : PySem.W.findIn K (.ref (He.ga K "BadRow")) "__init__" = some (some (.ref (He.ma K (He.ga K "BadRow") "__init__"))) ∧ PySem.W.typeIn K (.ref (He.ma K (He.ga K "BadRow") "__init__")) = some (.type "function") := Sy.fx_init (T.c.fax 30 (f := .init "BadRow") rfl)
theorem fx_xf_BadRow (T : Tx K mg) : XfC K (He.ga K "BadRow") ∧ PySem.W.findIn K (.ref (He.ga K "BadRow")) "person" = some none := Sy.fx_xf (T.c.fax 31 (f := .xf "BadRow" "person") rfl)
theorem fx_oex_Misfit (T : Tx K mg) : OexC K (He.ga K "Misfit") := Sy.fx_oex (T.c.fax 32 (f := .oex "Misfit") rfl)
theorem fx_mro_Misfit_Misfit (T : Tx K mg) : PySem.W.mroIn K (He.ga K "Misfit") (.ref (He.ga K "Misfit")) = some true := Sy.fx_mro (T.c.fax 33 (f := .mro "Misfit" "Misfit") rfl)
theorem fx_supx_Misfit (T : Tx K mg) : PySem.W.ks_superIn K (He.ga K "Misfit") (He.ga K "Misfit") "__init__" = some (some (.builtin Sy.veI)) ∧ PySem.W.subIn K (.ref (He.ga K "Misfit")) (.type "ValueError") = some true := Sy.fx_supx (T.c.fax 34 (f := .supx "Misfit") rfl)
theorem fx_init_Misfit (T : Tx K mg) : PySem.W.findIn K (.ref (He.ga K "Misfit")) "__init__" = some (some (.ref (He.ma K (He.ga K "Misfit") "__init__"))) ∧ PySem.W.typeIn K (.ref (He.ma K (He.ga K "Misfit") "__init__")) = some (.type "function") := Sy.fx_init (T.c.fax 35 (f := .init "Misfit") rfl)
theorem fx_xf_Misfit (T : Tx K mg) : XfC K (He.ga K "Misfit") ∧ PySem.W.findIn K (.ref (He.ga K "Misfit")) "thing" = some none := Sy.fx_xf (T.c.fax 36 (f := .xf "Misfit" "thing") rfl)
theorem fx_mro_Wishes_Wishes (T : Tx K mg) : PySem.W.mroIn K (He.ga K "Wishes") (.ref (He.ga K "Wishes")) = some true := Sy.fx_mro (T.c.fax 38 (f := .mro "Wishes" "Wishes") rfl)
theorem fx_mro_Grid_Grid (T : Tx K mg) : PySem.W.mroIn K (He.ga K "Grid") (.ref (He.ga K "Grid")) = some true := Sy.fx_mro (T.c.fax 40 (f := .mro "Grid" "Grid") rfl)
theorem fx_mro_Table_Table (T : Tx K mg) : PySem.W.mroIn K (He.ga K "Table") (.ref (He.ga K "Table")) = some true := Sy.fx_mro (T.c.fax 42 (f := .mro "Table" "Table") rfl)
theorem fx_mro_Table_Grid (T : Tx K mg) : PySem.W.mroIn K (He.ga K "Table") (.ref (He.ga K "Grid")) = some true := Sy.fx_mro (T.c.fax 43 (f := .mro "Table" "Grid") rfl)
theorem fx_sup_Table_Table (T : Tx K mg) : PySem.W.ks_superIn K (He.ga K "Table") (He.ga K "Table") "__init__" = some (some (.ref (He.ma K (He.ga K "Grid") "__init__"))) ∧ PySem.W.typeIn K (.ref (He.ma K (He.ga K "Grid") "__init__")) = some (.type "function") ∧ PySem.W.fnIn K (He.ma K (He.ga K "Grid") "__init__") = true := Sy.fx_sup (T.c.fax 44 (f := .sup "Table" "Table" "__init__" "Grid") rfl)
theorem fx_mro_Prices_Prices (T : Tx K mg) : PySem.W.mroIn K (He.ga K "Prices") (.ref (He.ga K "Prices")) = some true := Sy.fx_mro (T.c.fax 46 (f := .mro "Prices" "Prices") rfl)
end

theorem sc_BadSize___init__ : Sy.FnScopeS ["self", "size"] ["self", "size"] (defScope s_BadSize___init__) := ⟨rfl, rfl, rfl, by decide +kernel, rfl, by decide +kernel, by decide +kernel, by decide +kernel⟩
theorem ok_BadSize___init__ {w : World} {K : PySem.W.Frag} {mg : Str → Option Value} {base : Heap} (T : Tx K mg) : ∃ fd, FnOk pw w K mg base (L2.CX pw w) 1 (He.ma K (He.ga K "BadSize") "__init__") fd ["self", "size"] (spX (He.ga K "BadSize") "size" IntV) ∧ Binds K fd ["self", "size"] [] := by
  obtain ⟨fd, SD⟩ := T.c.sup 0 (d := d_BadSize___init__) rfl
  have sc := sc_BadSize___init__
  refine ⟨fd, SD.run (k := 0) (ar := _) (nm := "self") sc rfl rfl rfl rfl rfl (f_super T) (by rfl) (fx_opq T) (fun vs H Q E h => spX_len h) (fun cc cdv A outer s H vs Q E S hr h => ⟨_, Sy.psa_superx S (fx_oex_BadSize T) (i := 0) rfl (by first | exact Or.inl rfl | exact Or.inr (Or.inl rfl)) (fx_mro_BadSize_BadSize T) (fx_supx_BadSize T).1 (fx_supx_BadSize T).2 (pa_cons (pe_joined (PJ.cons pe_str (PJ.cons (pe_fmt (pv 1)) (PJ.cons pe_str PJ.nil)))) pa_nil) (Sy.psa_of (pss_one (ps_ost (pv 0) (pv 1)))), exc_init (fx_oex_BadSize T) (fx_xf_BadSize T).2 msg_svs h⟩), SD.bindsN fun _ _ _ _ _ _ _ us hl => match us, hl with | [_, _], _ => rfl⟩

theorem sc_BadOrder___init__ : Sy.FnScopeS ["self", "person"] ["self", "person"] (defScope s_BadOrder___init__) := ⟨rfl, rfl, rfl, by decide +kernel, rfl, by decide +kernel, by decide +kernel, by decide +kernel⟩
theorem ok_BadOrder___init__ {w : World} {K : PySem.W.Frag} {mg : Str → Option Value} {base : Heap} (T : Tx K mg) : ∃ fd, FnOk pw w K mg base (L2.CX pw w) 1 (He.ma K (He.ga K "BadOrder") "__init__") fd ["self", "person"] (spX (He.ga K "BadOrder") "person" IntV) ∧ Binds K fd ["self", "person"] [] := by
  obtain ⟨fd, SD⟩ := T.c.sup 1 (d := d_BadOrder___init__) rfl
  have sc := sc_BadOrder___init__
  refine ⟨fd, SD.run (k := 0) (ar := _) (nm := "self") sc rfl rfl rfl rfl rfl (f_super T) (by rfl) (fx_opq T) (fun vs H Q E h => spX_len h) (fun cc cdv A outer s H vs Q E S hr h => ⟨_, Sy.psa_superx S (fx_oex_BadOrder T) (i := 0) rfl (by first | exact Or.inl rfl | exact Or.inr (Or.inl rfl)) (fx_mro_BadOrder_BadOrder T) (fx_supx_BadOrder T).1 (fx_supx_BadOrder T).2 (pa_cons (pe_joined (PJ.cons pe_str (PJ.cons (pe_fmt (pv 1)) (PJ.cons pe_str PJ.nil)))) pa_nil) (Sy.psa_of (pss_one (ps_ost (pv 0) (pv 1)))), exc_init (fx_oex_BadOrder T) (fx_xf_BadOrder T).2 msg_svs h⟩), SD.bindsN fun _ _ _ _ _ _ _ us hl => match us, hl with | [_, _], _ => rfl⟩

theorem sc_BadCopies___init__ : Sy.FnScopeS ["self", "thing"] ["self", "thing"] (defScope s_BadCopies___init__) := ⟨rfl, rfl, rfl, by decide +kernel, rfl, by decide +kernel, by decide +kernel, by decide +kernel⟩
theorem ok_BadCopies___init__ {w : World} {K : PySem.W.Frag} {mg : Str → Option Value} {base : Heap} (T : Tx K mg) : ∃ fd, FnOk pw w K mg base (L2.CX pw w) 1 (He.ma K (He.ga K "BadCopies") "__init__") fd ["self", "thing"] (spX (He.ga K "BadCopies") "thing" IntN) ∧ Binds K fd ["self", "thing"] [] := by
  obtain ⟨fd, SD⟩ := T.c.sup 2 (d := d_BadCopies___init__) rfl
  have sc := sc_BadCopies___init__
  refine ⟨fd, SD.run (k := 0) (ar := _) (nm := "self") sc rfl rfl rfl rfl rfl (f_super T) (by rfl) (fx_opq T) (fun vs H Q E h => spX_len h) (fun cc cdv A outer s H vs Q E S hr h => ⟨_, Sy.psa_superx S (fx_oex_BadCopies T) (i := 0) rfl (by first | exact Or.inl rfl | exact Or.inr (Or.inl rfl)) (fx_mro_BadCopies_BadCopies T) (fx_supx_BadCopies T).1 (fx_supx_BadCopies T).2 (pa_cons (pe_joined (PJ.cons pe_str (PJ.cons (pe_fmtN (pv 1)) (PJ.cons pe_str PJ.nil)))) pa_nil) (Sy.psa_of (pss_one (ps_ost (pv 0) (pv 1)))), exc_init (fx_oex_BadCopies T) (fx_xf_BadCopies T).2 msgN_svs h⟩), SD.bindsN fun _ _ _ _ _ _ _ us hl => match us, hl with | [_, _], _ => rfl⟩

theorem sc_TooFewCopies___init__ : Sy.FnScopeS ["self", "missing"] ["self", "missing"] (defScope s_TooFewCopies___init__) := ⟨rfl, rfl, rfl, by decide +kernel, rfl, by decide +kernel, by decide +kernel, by decide +kernel⟩
theorem ok_TooFewCopies___init__ {w : World} {K : PySem.W.Frag} {mg : Str → Option Value} {base : Heap} (T : Tx K mg) : ∃ fd, FnOk pw w K mg base (L2.CX pw w) 1 (He.ma K (He.ga K "TooFewCopies") "__init__") fd ["self", "missing"] (spX (He.ga K "TooFewCopies") "missing" IntV) ∧ Binds K fd ["self", "missing"] [] := by
  obtain ⟨fd, SD⟩ := T.c.sup 3 (d := d_TooFewCopies___init__) rfl
  have sc := sc_TooFewCopies___init__
  refine ⟨fd, SD.run (k := 0) (ar := _) (nm := "self") sc rfl rfl rfl rfl rfl (f_super T) (by rfl) (fx_opq T) (fun vs H Q E h => spX_len h) (fun cc cdv A outer s H vs Q E S hr h => ⟨_, Sy.psa_superx S (fx_oex_TooFewCopies T) (i := 0) rfl (by first | exact Or.inl rfl | exact Or.inr (Or.inl rfl)) (fx_mro_TooFewCopies_TooFewCopies T) (fx_supx_TooFewCopies T).1 (fx_supx_TooFewCopies T).2 (pa_cons (pe_joined (PJ.cons (pe_fmt (pv 1)) (PJ.cons pe_str PJ.nil))) pa_nil) (Sy.psa_of (pss_one (ps_ost (pv 0) (pv 1)))), exc_init (fx_oex_TooFewCopies T) (fx_xf_TooFewCopies T).2 msg_vs h⟩), SD.bindsN fun _ _ _ _ _ _ _ us hl => match us, hl with | [_, _], _ => rfl⟩

theorem sc_BadWhole___init__ : Sy.FnScopeS ["self", "whole"] ["self", "whole"] (defScope s_BadWhole___init__) := ⟨rfl, rfl, rfl, by decide +kernel, rfl, by decide +kernel, by decide +kernel, by decide +kernel⟩
theorem ok_BadWhole___init__ {w : World} {K : PySem.W.Frag} {mg : Str → Option Value} {base : Heap} (T : Tx K mg) : ∃ fd, FnOk pw w K mg base (L2.CX pw w) 1 (He.ma K (He.ga K "BadWhole") "__init__") fd ["self", "whole"] (spX (He.ga K "BadWhole") "whole" IntV) ∧ Binds K fd ["self", "whole"] [] := by
  obtain ⟨fd, SD⟩ := T.c.sup 4 (d := d_BadWhole___init__) rfl
  have sc := sc_BadWhole___init__
  refine ⟨fd, SD.run (k := 0) (ar := _) (nm := "self") sc rfl rfl rfl rfl rfl (f_super T) (by rfl) (fx_opq T) (fun vs H Q E h => spX_len h) (fun cc cdv A outer s H vs Q E S hr h => ⟨_, Sy.psa_superx S (fx_oex_BadWhole T) (i := 0) rfl (by first | exact Or.inl rfl | exact Or.inr (Or.inl rfl)) (fx_mro_BadWhole_BadWhole T) (fx_supx_BadWhole T).1 (fx_supx_BadWhole T).2 (pa_cons (pe_joined (PJ.cons pe_str (PJ.cons (pe_fmt (pv 1)) (PJ.cons pe_str PJ.nil)))) pa_nil) (Sy.psa_of (pss_one (ps_ost (pv 0) (pv 1)))), exc_init (fx_oex_BadWhole T) (fx_xf_BadWhole T).2 msg_svs h⟩), SD.bindsN fun _ _ _ _ _ _ _ us hl => match us, hl with | [_, _], _ => rfl⟩

theorem sc_BadRow___init__ : Sy.FnScopeS ["self", "person"] ["self", "person"] (defScope s_BadRow___init__) := ⟨rfl, rfl, rfl, by decide +kernel, rfl, by decide +kernel, by decide +kernel, by decide +kernel⟩
theorem ok_BadRow___init__ {w : World} {K : PySem.W.Frag} {mg : Str → Option Value} {base : Heap} (T : Tx K mg) : ∃ fd, FnOk pw w K mg base (L2.CX pw w) 1 (He.ma K (He.ga K "BadRow") "__init__") fd ["self", "person"] (spX (He.ga K "BadRow") "person" IntV) ∧ Binds K fd ["self", "person"] [] := by
  obtain ⟨fd, SD⟩ := T.c.sup 5 (d := d_BadRow___init__) rfl
  have sc := sc_BadRow___init__
  refine ⟨fd, SD.run (k := 0) (ar := _) (nm := "self") sc rfl rfl rfl rfl rfl (f_super T) (by rfl) (fx_opq T) (fun vs H Q E h => spX_len h) (fun cc cdv A outer s H vs Q E S hr h => ⟨_, Sy.psa_superx S (fx_oex_BadRow T) (i := 0) rfl (by first | exact Or.inl rfl | exact Or.inr (Or.inl rfl)) (fx_mro_BadRow_BadRow T) (fx_supx_BadRow T).1 (fx_supx_BadRow T).2 (pa_cons (pe_joined (PJ.cons pe_str (PJ.cons (pe_fmt (pv 1)) (PJ.cons pe_str PJ.nil)))) pa_nil) (Sy.psa_of (pss_one (ps_ost (pv 0) (pv 1)))), exc_init (fx_oex_BadRow T) (fx_xf_BadRow T).2 msg_svs h⟩), SD.bindsN fun _ _ _ _ _ _ _ us hl => match us, hl with | [_, _], _ => rfl⟩

theorem sc_Misfit___init__ : Sy.FnScopeS ["self", "thing"] ["self", "thing"] (defScope s_Misfit___init__) := ⟨rfl, rfl, rfl, by decide +kernel, rfl, by decide +kernel, by decide +kernel, by decide +kernel⟩
theorem ok_Misfit___init__ {w : World} {K : PySem.W.Frag} {mg : Str → Option Value} {base : Heap} (T : Tx K mg) : ∃ fd, FnOk pw w K mg base (L2.CX pw w) 1 (He.ma K (He.ga K "Misfit") "__init__") fd ["self", "thing"] (spX (He.ga K "Misfit") "thing" IntN) ∧ Binds K fd ["self", "thing"] [] := by
  obtain ⟨fd, SD⟩ := T.c.sup 6 (d := d_Misfit___init__) rfl
  have sc := sc_Misfit___init__
  refine ⟨fd, SD.run (k := 0) (ar := _) (nm := "self") sc rfl rfl rfl rfl rfl (f_super T) (by rfl) (fx_opq T) (fun vs H Q E h => spX_len h) (fun cc cdv A outer s H vs Q E S hr h => ⟨_, Sy.psa_superx S (fx_oex_Misfit T) (i := 0) rfl (by first | exact Or.inl rfl | exact Or.inr (Or.inl rfl)) (fx_mro_Misfit_Misfit T) (fx_supx_Misfit T).1 (fx_supx_Misfit T).2 (pa_cons (pe_joined (PJ.cons pe_str (PJ.cons (pe_fmtN (pv 1)) PJ.nil))) pa_nil) (Sy.psa_of (pss_one (ps_ost (pv 0) (pv 1)))), exc_init (fx_oex_Misfit T) (fx_xf_Misfit T).2 msgN_sv h⟩), SD.bindsN fun _ _ _ _ _ _ _ us hl => match us, hl with | [_, _], _ => rfl⟩

theorem sc_frozen : FnScope ["value", "part"] ["value"] (defScope s_frozen) := ⟨rfl, rfl, rfl, by decide +kernel, rfl, by decide +kernel, by decide +kernel⟩
theorem sc_check_size : FnScope ["size"] ["size"] (defScope s_check_size) := ⟨rfl, rfl, rfl, by decide +kernel, rfl, by decide +kernel, by decide +kernel⟩
theorem sc_check_order : FnScope ["person", "order", "things", "seen", "group", "thing"] ["person", "order", "things"] (defScope s_check_order) := ⟨rfl, rfl, rfl, by decide +kernel, rfl, by decide +kernel, by decide +kernel⟩
theorem sc__checked_copies : FnScope ["copies", "things", "people", "thing"] ["copies", "things", "people"] (defScope s__checked_copies) := ⟨rfl, rfl, rfl, by decide +kernel, rfl, by decide +kernel, by decide +kernel⟩
theorem sc__ranks : FnScope ["order", "things", "ranks", "rank", "group", "thing"] ["order", "things"] (defScope s__ranks) := ⟨rfl, rfl, rfl, by decide +kernel, rfl, by decide +kernel, by decide +kernel⟩
theorem sc_Wishes___init__ : FnScope ["self", "orders", "copies", "person", "group", "order"] ["self", "orders", "copies"] (defScope s_Wishes___init__) := ⟨rfl, rfl, rfl, by decide +kernel, rfl, by decide +kernel, by decide +kernel⟩
theorem sc_Grid___init__ : FnScope ["self", "rows", "whole", "common", "person", "entry", "row"] ["self", "rows", "whole"] (defScope s_Grid___init__) := ⟨rfl, rfl, rfl, by decide +kernel, rfl, by decide +kernel, by decide +kernel⟩
theorem sc_Grid_column : FnScope ["self", "thing", "row"] ["self", "thing"] (defScope s_Grid_column) := ⟨rfl, rfl, rfl, by decide +kernel, rfl, by decide +kernel, by decide +kernel⟩
theorem sc_Table___init__ : Sy.FnScopeS ["self", "rows", "whole", "person"] ["self", "rows", "whole"] (defScope s_Table___init__) := ⟨rfl, rfl, rfl, by decide +kernel, rfl, by decide +kernel, by decide +kernel, by decide +kernel⟩
theorem sc_Prices___init__ : FnScope ["self", "levels"] ["self", "levels"] (defScope s_Prices___init__) := ⟨rfl, rfl, rfl, by decide +kernel, rfl, by decide +kernel, by decide +kernel⟩
theorem sc_check_fit : FnScope ["wishes", "table", "thing"] ["wishes", "table"] (defScope s_check_fit) := ⟨rfl, rfl, rfl, by decide +kernel, rfl, by decide +kernel, by decide +kernel⟩
theorem sc_spare : FnScope ["wishes", "table", "thing"] ["wishes", "table"] (defScope s_spare) := ⟨rfl, rfl, rfl, by decide +kernel, rfl, by decide +kernel, by decide +kernel⟩
theorem sc__agrees : FnScope ["wishes", "person", "row", "levels", "ranks", "held", "other"] ["wishes", "person", "row", "levels"] (defScope s__agrees) := ⟨rfl, rfl, rfl, by decide +kernel, rfl, by decide +kernel, by decide +kernel⟩
theorem sc_shows_prices : FnScope ["wishes", "table", "prices", "free", "levels", "thing", "person"] ["wishes", "table", "prices"] (defScope s_shows_prices) := ⟨rfl, rfl, rfl, by decide +kernel, rfl, by decide +kernel, by decide +kernel⟩
theorem sc__law_cell : FnScope ["script", "k"] ["script", "k"] (defScope s__law_cell) := ⟨rfl, rfl, rfl, by decide +kernel, rfl, by decide +kernel, by decide +kernel⟩
theorem sc__law_drawn : FnScope ["cell", "many", "below", "left", "mixed", "found", "k"] ["cell", "many", "below"] (defScope s__law_drawn) := ⟨rfl, rfl, rfl, by decide +kernel, rfl, by decide +kernel, by decide +kernel⟩
theorem sc__law_rows : FnScope ["script", "deal", "things", "people", "top", "turns", "tickets", "rows", "person", "row", "k", "thing"] ["script", "deal", "things"] (defScope s__law_rows) := ⟨rfl, rfl, rfl, by decide +kernel, rfl, by decide +kernel, by decide +kernel⟩
theorem sc__law_levels : FnScope ["script", "deal", "things", "top", "kept", "drawn", "levels", "thing"] ["script", "deal", "things"] (defScope s__law_levels) := ⟨rfl, rfl, rfl, by decide +kernel, rfl, by decide +kernel, by decide +kernel⟩
theorem sc__law_moved : FnScope ["script", "rows", "levels", "cheap", "places", "shares", "moved", "k", "row", "given", "taken", "share", "thing"] ["script", "rows", "levels"] (defScope s__law_moved) := ⟨rfl, rfl, rfl, by decide +kernel, rfl, by decide +kernel, by decide +kernel⟩
theorem sc__law_stock : FnScope ["script", "rows", "levels", "whole", "more", "stock", "thing", "column", "least", "row"] ["script", "rows", "levels", "whole"] (defScope s__law_stock) := ⟨rfl, rfl, rfl, by decide +kernel, rfl, by decide +kernel, by decide +kernel⟩
theorem sc__law_ranks : FnScope ["script", "person", "row", "levels", "later", "ranks", "thing", "rank", "level"] ["script", "person", "row", "levels"] (defScope s__law_ranks) := ⟨rfl, rfl, rfl, by decide +kernel, rfl, by decide +kernel, by decide +kernel⟩
theorem sc__law_order : FnScope ["ranks", "order", "rank", "group", "thing"] ["ranks"] (defScope s__law_order) := ⟨rfl, rfl, rfl, by decide +kernel, rfl, by decide +kernel, by decide +kernel⟩
theorem sc__law_agrees : FnScope ["ranks", "row", "levels", "held", "other"] ["ranks", "row", "levels"] (defScope s__law_agrees) := ⟨rfl, rfl, rfl, by decide +kernel, rfl, by decide +kernel, by decide +kernel⟩
theorem sc__law_due : FnScope ["world", "levels", "thing", "person", "ranks", "rows", "free"] ["world", "levels"] (defScope s__law_due) := ⟨rfl, rfl, rfl, by decide +kernel, rfl, by decide +kernel, by decide +kernel⟩
theorem sc__law_papers : FnScope ["script", "levels", "things", "cell", "first", "second", "papers", "swapped", "asked", "thing", "price", "changed", "level"] ["script", "levels"] (defScope s__law_papers) := ⟨rfl, rfl, rfl, by decide +kernel, rfl, by decide +kernel, by decide +kernel⟩
theorem sc__law_refused : FnScope ["wishes", "table", "prices", "e"] ["wishes", "table", "prices"] (defScope s__law_refused) := ⟨rfl, rfl, rfl, by decide +kernel, rfl, by decide +kernel, by decide +kernel⟩
theorem sc__law_misfits : FnScope ["script", "orders", "rows", "whole", "stock", "prices", "things", "tight", "other", "due", "longer", "row"] ["script", "orders", "rows", "whole", "stock", "prices"] (defScope s__law_misfits) := ⟨rfl, rfl, rfl, by decide +kernel, rfl, by decide +kernel, by decide +kernel⟩
theorem sc_law : FnScope ["script", "sizes", "people", "things", "deal", "rows", "whole", "levels", "stock", "free", "ranks", "orders", "world", "wishes", "table", "paper", "handed", "prices", "told", "thing", "person", "row"] ["script"] (defScope s_law) := ⟨rfl, rfl, rfl, by decide +kernel, rfl, by decide +kernel, by decide +kernel⟩
theorem intv {K : PySem.W.Frag} {F : Fz} {H : Hp} {v : V} {n : Int} (h : DV K F H v (.int n)) (hz : n.natAbs.log2 < 1920) : IntV v := by
  cases h
  exact ⟨n, rfl, hz⟩
theorem lg200 {n : Int} (h : n.natAbs < 2 ^ 200) : n.natAbs.log2 < 1920 := by
  by_cases z : n.natAbs = 0
  · rw [z]
    decide
  · exact Nat.lt_of_lt_of_le ((Nat.log2_lt z).mpr h) (by decide)
theorem natlg (i : Nat) (h : i ≤ 1000000) : ((i : Int)).natAbs.log2 < 1920 := lg200 (by
  have : (1000000 : Nat) < 2 ^ 200 := by decide
  omega)
def gcI (c e : Int) : Int := ((Nat.gcd c.natAbs e.natAbs : Nat) : Int)
theorem abs_sum {a : Nat} : ∀ (l : List Int), (∀ x ∈ l, x.natAbs < 2 ^ a) → l.sum.natAbs ≤ l.length * 2 ^ a
  | [], _ => by simp
  | x :: l, h => by
    have h1 := h x List.mem_cons_self
    have h2 := abs_sum l fun y hy => h y (List.mem_cons_of_mem _ hy)
    have h3 : (x + l.sum).natAbs ≤ x.natAbs + l.sum.natAbs := Int.natAbs_add_le _ _
    show (x + l.sum).natAbs ≤ (l.length + 1) * 2 ^ a
    rw [Nat.add_mul, Nat.one_mul]
    omega
theorem abs_sum_lt {a b : Nat} {l : List Int} (h : ∀ x ∈ l, x.natAbs < 2 ^ a) (hl : l.length < 2 ^ b) : l.sum.natAbs < 2 ^ (a + b) := by
  have h1 := abs_sum l h
  have h2 : l.length * 2 ^ a < 2 ^ b * 2 ^ a := Nat.mul_lt_mul_of_pos_right hl (Nat.two_pow_pos a)
  rw [Nat.add_comm, Nat.pow_add]
  omega
theorem getD_mem {α : Type} {l : List α} {k : Nat} {z : α} (h : k < l.length) : l.getD k z ∈ l := by
  rw [List.getD_eq_getElem?_getD, List.getElem?_eq_getElem h]
  exact List.getElem_mem h
theorem getD_abs {a : Nat} {l : List Int} {k : Nat} (h : ∀ x ∈ l, x.natAbs < 2 ^ a) : (l.getD k 0).natAbs < 2 ^ a := by
  rw [List.getD_eq_getElem?_getD]
  cases e : l[k]? with
  | none =>
    show (0 : Int).natAbs < 2 ^ a
    exact Nat.two_pow_pos a
  | some x => exact h x (List.mem_of_getElem? e)
/-! ### frozen -/
mutual
def frz : D → D
  | .lst xs => .tup (frzs xs)
  | .tup xs => .tup (frzs xs)
  | d => d
def frzs : List D → List D
  | [] => []
  | d :: ds => frz d :: frzs ds
end
theorem frzs_map (xs : List D) : frzs xs = xs.map frz := by
  induction xs with
  | nil => rfl
  | cons x xs ih =>
    show frz x :: frzs xs = _
    rw [ih]
    rfl
/-- plain values, lists and tuples of such, nested n deep at most -/
def okF : Nat → D → Bool
  | _, .int _ => true
  | _, .non => true
  | n + 1, .lst xs => decide (xs.length ≤ 100000) && xs.all (okF n)
  | n + 1, .tup xs => decide (xs.length ≤ 100000) && xs.all (okF n)
  | _, _ => false
theorem okF_L {α : Type} {f : α → D} {l : List α} {n : Nat} (h1 : l.length ≤ 100000) (h : ∀ a ∈ l, okF n (f a) = true) : okF (n + 1) (eL f l) = true := by
  show (decide ((l.map f).length ≤ 100000) && (l.map f).all (okF n)) = true
  rw [Bool.and_eq_true]
  refine ⟨decide_eq_true (by rw [List.length_map]; exact h1), ?_⟩
  rw [List.all_map, List.all_eq_true]
  exact h
theorem okF_T {α : Type} {f : α → D} {l : List α} {n : Nat} (h1 : l.length ≤ 100000) (h : ∀ a ∈ l, okF n (f a) = true) : okF (n + 1) (eT f l) = true := okF_L (f := f) h1 h
theorem okF_int (n : Nat) (i : Int) : okF n (.int i) = true := by cases n <;> rfl
theorem frz_L {α : Type} {f g : α → D} {l : List α} (h : ∀ a ∈ l, frz (f a) = g a) : frz (eL f l) = eT g l := by
  show D.tup (frzs (l.map f)) = _
  rw [frzs_map, List.map_map]
  exact congrArg D.tup (List.map_congr_left h)
theorem frz_T {α : Type} {f g : α → D} {l : List α} (h : ∀ a ∈ l, frz (f a) = g a) : frz (eT f l) = eT g l := frz_L (f := f) h
inductive R_frz : Nat → List D → Rs → Prop
  | mk (n : Nat) (d : D) (h : okF n d = true) : R_frz (n + 1) [d] (.d (frz d))
section
variable {w : World} {K : PySem.W.Frag} {mg : Str → Option Value} {base : Heap}
theorem ok_frozenN (T : Tx K mg) (n : Nat) : ∃ fd, FnOk pw w K mg base (L2.CX pw w) n (He.ga K "frozen") fd ["value"] (spR K (R_frz n)) ∧ Binds K fd ["value"] [] ∧ PySem.W.keepIn K (.ref (He.ga K "frozen")) = true := by
  obtain ⟨fd, FD⟩ := T.c.def_ 1 (d := d_frozen) rfl
  have sc := sc_frozen
  have b_frozen : Binds K fd ["value"] [] := FD.bindsN fun _ _ _ _ _ _ us hl => match us, hl with | [_], _ => rfl
  have k_frozen : PySem.W.keepIn K (.ref (He.ga K "frozen")) = true := FD.kp
  refine ⟨fd, ?_, b_frozen, k_frozen⟩
  induction n with
  | zero =>
    refine ⟨fun vs H Q E h => ?_, fun A outer s H args us vs Q E hr e0 hb rv h => ?_⟩
    · obtain ⟨_, _, _, _, _, h, _⟩ := h
      cases h
    · obtain ⟨_, _, _, _, _, h, _⟩ := h
      cases h
  | succ n ih =>
    have F_frozen := ih
    refine fnR FD sc (fun ds r h => by cases h <;> rfl) fun cdv A outer s H E hr ds r hR => ?_
    cases hR with
    | mk _ d h =>
      cases d with
      | int i =>
        refine ⟨_, (pss_cons (ps_if (pt_val (pe_callB (call_isiTK (K := K) rfl) rfl (f_isinstance T) (by decide +kernel) (pa_cons (pv 0) (pa_cons (pe_tup (pa_cons (pe_bltn (v := .ty "list") (u := .type "list") rfl (f_list T) (by decide +kernel) rfl) (pa_cons (pe_bltn (v := .ty "tuple") (u := .type "tuple") rfl (f_tuple T) (by decide +kernel) rfl) pa_nil))) pa_nil)))) (pss_one (ps_ret (pe_callTy (call_tuple_ofK (K := K) rfl) rfl (f_tuple T) (by decide +kernel) (pa_cons (pe_lc (own := [("part", 1)]) (g := gName 1) (tt := tYes) rfl sc.nd (pi_listK (K := K) rfl (pv 0)) (blkOk_by (N := ["value", "part"]) (sc := defScope s_frozen) (by decide +kernel)) (fun _ _ _ _ _ => (pg_name (i := 1) sc.nd rfl (by first | exact Or.inl rfl | exact Or.inr rfl))) (fun _ _ _ _ _ => pts_nil) (fun _ _ _ _ _ => (pe_callSD F_frozen hr rfl (g_frozen T) k_frozen b_frozen .nil (fun σ => passZ σ) (pa_cons (pv 1) pa_nil)))) pa_nil)))) pss_nil) (pss_one (ps_ret (pv 0)))), fun F xw => ?_⟩
        refine q_seq (s_if (evt_B (ev_isiT ["list", "tuple"] (ev_var rfl) rfl (eva_cons ev_ty (eva_cons ev_ty eva_nil)) (b := false) (by decide +kernel))) (fun hb => ?_) (fun hb => ?_))
        · cases hb
        · exact s_next (s_ret (ev_var rfl) rfl)
      | non =>
        refine ⟨_, (pss_cons (ps_if (pt_val (pe_callB (call_isiTK (K := K) rfl) rfl (f_isinstance T) (by decide +kernel) (pa_cons (pv 0) (pa_cons (pe_tup (pa_cons (pe_bltn (v := .ty "list") (u := .type "list") rfl (f_list T) (by decide +kernel) rfl) (pa_cons (pe_bltn (v := .ty "tuple") (u := .type "tuple") rfl (f_tuple T) (by decide +kernel) rfl) pa_nil))) pa_nil)))) (pss_one (ps_ret (pe_callTy (call_tuple_ofK (K := K) rfl) rfl (f_tuple T) (by decide +kernel) (pa_cons (pe_lc (own := [("part", 1)]) (g := gName 1) (tt := tYes) rfl sc.nd (pi_listK (K := K) rfl (pv 0)) (blkOk_by (N := ["value", "part"]) (sc := defScope s_frozen) (by decide +kernel)) (fun _ _ _ _ _ => (pg_name (i := 1) sc.nd rfl (by first | exact Or.inl rfl | exact Or.inr rfl))) (fun _ _ _ _ _ => pts_nil) (fun _ _ _ _ _ => (pe_callSD F_frozen hr rfl (g_frozen T) k_frozen b_frozen .nil (fun σ => passZ σ) (pa_cons (pv 1) pa_nil)))) pa_nil)))) pss_nil) (pss_one (ps_ret (pv 0)))), fun F xw => ?_⟩
        refine q_seq (s_if (evt_B (ev_isiT ["list", "tuple"] (ev_var rfl) rfl (eva_cons ev_ty (eva_cons ev_ty eva_nil)) (b := false) (by decide +kernel))) (fun hb => ?_) (fun hb => ?_))
        · cases hb
        · exact s_next (s_ret (ev_var rfl) rfl)
      | lst xs =>
        refine ⟨_, (pss_cons (ps_if (pt_val (pe_callB (call_isiTK (K := K) rfl) rfl (f_isinstance T) (by decide +kernel) (pa_cons (pv 0) (pa_cons (pe_tup (pa_cons (pe_bltn (v := .ty "list") (u := .type "list") rfl (f_list T) (by decide +kernel) rfl) (pa_cons (pe_bltn (v := .ty "tuple") (u := .type "tuple") rfl (f_tuple T) (by decide +kernel) rfl) pa_nil))) pa_nil)))) (pss_one (ps_ret (pe_callTy (call_tuple_ofK (K := K) rfl) rfl (f_tuple T) (by decide +kernel) (pa_cons (pe_lc (own := [("part", 1)]) (g := gName 1) (tt := tYes) rfl sc.nd (pi_listK (K := K) rfl (pv 0)) (blkOk_by (N := ["value", "part"]) (sc := defScope s_frozen) (by decide +kernel)) (fun _ _ _ _ _ => (pg_name (i := 1) sc.nd rfl (by first | exact Or.inl rfl | exact Or.inr rfl))) (fun _ _ _ _ _ => pts_nil) (fun _ _ _ _ _ => (pe_callSD F_frozen hr rfl (g_frozen T) k_frozen b_frozen .nil (fun σ => passZ σ) (pa_cons (pv 1) pa_nil)))) pa_nil)))) pss_nil) (pss_one (ps_ret (pv 0)))), fun F xw => ?_⟩
        cases n with
        | zero => cases h
        | succ n =>
          obtain ⟨h1, h2⟩ := Bool.and_eq_true_iff.mp (show (decide (xs.length ≤ 100000) && xs.all (okF n)) = true from h)
          have h1' : xs.length ≤ 100000 := of_decide_eq_true h1
          refine q_seq (s_if (evt_B (ev_isiT ["list", "tuple"] (ev_var rfl) rfl (eva_cons ev_ty (eva_cons ev_ty eva_nil)) (b := true) (by decide +kernel))) (fun hb => ?_) (fun hb => ?_))
          · refine s_ret (ev_tofL (ev_l (evl_lc1 (fun i => frz (xs.getD i .non)) (src_list (ev_var rfl)) h1' (by decide) (fun i hi => gd_name ⟨evt_yes, ev_callX (eva_cons (ev_var rfl) eva_nil) (.mk n _ ?_)⟩)))) ?_
            · rw [List.getD_eq_getElem?_getD, List.getElem?_eq_getElem hi]
              exact List.all_eq_true.mp h2 _ (List.getElem_mem hi)
            · show Rs.d _ = Rs.d _
              rw [L3.range_map]
              show Rs.d (.tup (frzs xs)) = _
              rw [frzs_map]
          · cases hb
      | tup xs =>
        refine ⟨_, (pss_cons (ps_if (pt_val (pe_callB (call_isiTK (K := K) rfl) rfl (f_isinstance T) (by decide +kernel) (pa_cons (pv 0) (pa_cons (pe_tup (pa_cons (pe_bltn (v := .ty "list") (u := .type "list") rfl (f_list T) (by decide +kernel) rfl) (pa_cons (pe_bltn (v := .ty "tuple") (u := .type "tuple") rfl (f_tuple T) (by decide +kernel) rfl) pa_nil))) pa_nil)))) (pss_one (ps_ret (pe_callTy (call_tuple_ofK (K := K) rfl) rfl (f_tuple T) (by decide +kernel) (pa_cons (pe_lc (own := [("part", 1)]) (g := gName 1) (tt := tYes) rfl sc.nd (pi_tupK (K := K) rfl (pv 0)) (blkOk_by (N := ["value", "part"]) (sc := defScope s_frozen) (by decide +kernel)) (fun _ _ _ _ _ => (pg_name (i := 1) sc.nd rfl (by first | exact Or.inl rfl | exact Or.inr rfl))) (fun _ _ _ _ _ => pts_nil) (fun _ _ _ _ _ => (pe_callSD F_frozen hr rfl (g_frozen T) k_frozen b_frozen .nil (fun σ => passZ σ) (pa_cons (pv 1) pa_nil)))) pa_nil)))) pss_nil) (pss_one (ps_ret (pv 0)))), fun F xw => ?_⟩
        cases n with
        | zero => cases h
        | succ n =>
          obtain ⟨h1, h2⟩ := Bool.and_eq_true_iff.mp (show (decide (xs.length ≤ 100000) && xs.all (okF n)) = true from h)
          have h1' : xs.length ≤ 100000 := of_decide_eq_true h1
          refine q_seq (s_if (evt_B (ev_isiT ["list", "tuple"] (ev_var rfl) rfl (eva_cons ev_ty (eva_cons ev_ty eva_nil)) (b := true) (by decide +kernel))) (fun hb => ?_) (fun hb => ?_))
          · refine s_ret (ev_tofL (ev_l (evl_lc1 (fun i => frz (xs.getD i .non)) (src_tup (ev_var rfl)) h1' (by decide) (fun i hi => gd_name ⟨evt_yes, ev_callX (eva_cons (ev_var rfl) eva_nil) (.mk n _ ?_)⟩)))) ?_
            · rw [List.getD_eq_getElem?_getD, List.getElem?_eq_getElem hi]
              exact List.all_eq_true.mp h2 _ (List.getElem_mem hi)
            · show Rs.d _ = Rs.d _
              rw [L3.range_map]
              show Rs.d (.tup (frzs xs)) = _
              rw [frzs_map]
          · cases hb
      | _ => cases n <;> cases h
theorem ok_frozen (T : Tx K mg) : ∃ fd, FnOk pw w K mg base (L2.CX pw w) 4 (He.ga K "frozen") fd ["value"] (spR K (R_frz 4)) ∧ Binds K fd ["value"] [] ∧ PySem.W.keepIn K (.ref (He.ga K "frozen")) = true := ok_frozenN T 4
end
section
variable {w : World} {K : PySem.W.Frag} {mg : Str → Option Value} {base : Heap}
/-! ### check_size -/
inductive R_size (C : Addr) : List D → Rs → Prop
  | ok (n : Int) (h : 1 ≤ n ∧ n ≤ 12) : R_size C [.int n] (.d .non)
  | bad (n : Int) (h : ¬ (1 ≤ n ∧ n ≤ 12)) (hz : n.natAbs.log2 < 1920) : R_size C [.int n] (.exc C "size" (.int n))
theorem ok_check_size (T : Tx K mg) : ∃ fd, FnOk pw w K mg base (L2.CX pw w) 3 (He.ga K "check_size") fd ["size"] (spR K (R_size (He.ga K "BadSize"))) ∧ Binds K fd ["size"] [] ∧ PySem.W.keepIn K (.ref (He.ga K "check_size")) = true := by
  obtain ⟨fdX_BadSize, X_BadSize, bX_BadSize⟩ := ok_BadSize___init__ (w := w) (base := base) T
  obtain ⟨fd, FD⟩ := T.c.def_ 2 (d := d_check_size) rfl
  have sc := sc_check_size
  refine ⟨fd, fnR FD sc (fun ds r h => by cases h <;> rfl) fun cdv A outer s H E hr ds r hR => ⟨_, (pss_one (ps_if (pt_not (pt_chain op_le op_le pe_int (pv 0) (pe_gint rfl (c_MOST T)))) (pss_one (ps_raise rfl (takes_of rfl rfl rfl rfl) (pmk_oex (fx_oex_BadSize T) (fx_init_BadSize T).1 (fx_init_BadSize T).2 X_BadSize (hr.mono (by decide)) bX_BadSize .nil passN rfl (g_BadSize T) (pa_cons (pv 0) pa_nil)))) pss_nil)), ?_⟩, FD.bindsN fun _ _ _ _ _ _ us hl => match us, hl with | [_], _ => rfl, FD.kp⟩
  intro F xw
  cases hR with
  | ok n h =>
    refine s_if (evt_not (evt_test (ev_chainI ev_int (ev_var rfl) (fun _ => ev_int)))) (fun hb => ?_) (fun hb => ?_)
    · exfalso
      simp at hb
      omega
    · exact s_next rfl
  | bad n h hz =>
    refine s_if (evt_not (evt_test (ev_chainI ev_int (ev_var rfl) (fun _ => ev_int)))) (fun hb => ?_) (fun hb => ?_)
    · exact s_raise (eva_cons (ev_var rfl) eva_nil) (fun _ _ _ hv => intv hv hz) xw rfl
    · exfalso
      simp at hb
      omega
/-! ### check_order -/
abbrev eO : List (List Int) → D := eT (eT D.int)
structure OrdOk (n : Nat) (l : List (List Int)) : Prop where
  ne : ∀ g ∈ l, g ≠ []
  rng : ∀ g ∈ l, ∀ t ∈ g, 0 ≤ t ∧ t < n
  nd : l.flatten.Nodup
  len : l.flatten.length = n
  sz : n ≤ 1000
theorem OrdOk.part {n : Nat} {l : List (List Int)} (h : OrdOk n l) {i : Nat} {g : List Int} (e : l[i]? = some g) : (l.take (i + 1)).flatten = (l.take i).flatten ++ g := by
  rw [List.take_succ, e]
  simp
theorem flat_split {l : List (List Int)} {i : Nat} {g : List Int} (e : l[i]? = some g) : ∃ r, l.flatten = (l.take i).flatten ++ (g ++ r) := by
  obtain ⟨hi, rfl⟩ := List.getElem?_eq_some_iff.mp e
  refine ⟨(l.drop (i + 1)).flatten, ?_⟩
  have h := List.take_append_drop i l
  rw [List.drop_eq_getElem_cons hi] at h
  have h2 := congrArg List.flatten h
  rw [← h2, List.flatten_append, List.flatten_cons]
theorem mid_fresh {A a b r : List Int} {x : Int} (h : (A ++ ((a ++ x :: b) ++ r)).Nodup) : ¬ x ∈ A ++ a := by
  have e : A ++ ((a ++ x :: b) ++ r) = (A ++ a) ++ (x :: (b ++ r)) := by simp
  rw [e] at h
  exact fun hm => (List.nodup_append.mp h).2.2 _ hm _ List.mem_cons_self rfl
theorem OrdOk.fresh {n : Nat} {l : List (List Int)} (h : OrdOk n l) {i j : Nat} {g : List Int} {t : Int} (e : l[i]? = some g) (e2 : g[j]? = some t) : ¬ t ∈ (l.take i).flatten ++ g.take j := by
  obtain ⟨r, hr⟩ := flat_split e
  have hn := h.nd
  obtain ⟨hj, rfl⟩ := List.getElem?_eq_some_iff.mp e2
  have h2 : g = g.take j ++ (g[j] :: g.drop (j + 1)) := by
    rw [← List.drop_eq_getElem_cons hj, List.take_append_drop]
  rw [hr, h2] at hn
  exact mid_fresh hn
theorem OrdOk.len2 {n : Nat} {l : List (List Int)} (h : OrdOk n l) {i j : Nat} {g : List Int} (e : l[i]? = some g) : ((l.take i).flatten ++ g.take j).length ≤ n := by
  obtain ⟨r, hr⟩ := flat_split e
  have := h.len
  rw [hr] at this
  simp at this ⊢
  omega
inductive R_cho : List D → Rs → Prop
  | ok (p : Int) (n : Nat) (l : List (List Int)) (h : OrdOk n l) : R_cho [.int p, eO l, .int n] (.d .non)
theorem ok_check_order (T : Tx K mg) : ∃ fd, FnOk pw w K mg base (L2.CX pw w) 3 (He.ga K "check_order") fd ["person", "order", "things"] (spR K R_cho) ∧ Binds K fd ["person", "order", "things"] [] ∧ PySem.W.keepIn K (.ref (He.ga K "check_order")) = true := by
  obtain ⟨fdX_BadOrder, X_BadOrder, bX_BadOrder⟩ := ok_BadOrder___init__ (w := w) (base := base) T
  obtain ⟨fd, FD⟩ := T.c.def_ 3 (d := d_check_order) rfl
  have sc := sc_check_order
  refine ⟨fd, fnR FD sc (fun ds r h => by cases h <;> rfl) fun cdv A outer s H E hr ds r hR => ⟨_, (pss_cons (ps_set (i := 3) sc.nd rfl (by first | exact Or.inl rfl | exact Or.inr rfl) (pe_callTy0 (cr_set0W (w := w) rfl) rfl (f_set T) (by decide +kernel))) (pss_cons (ps_for (passes_of rfl) rfl (pi_tupK (K := K) rfl (pv 1)) (pg_name (i := 4) sc.nd rfl (by first | exact Or.inl rfl | exact Or.inr rfl)) (pss_cons (ps_if (pt_not (pt_truthK (K := K) rfl (pv 4) (fun _ => rfl))) (pss_one (ps_raise rfl (takes_of rfl rfl rfl rfl) (pmk_oex (fx_oex_BadOrder T) (fx_init_BadOrder T).1 (fx_init_BadOrder T).2 X_BadOrder (hr.mono (by decide)) bX_BadOrder .nil passN rfl (g_BadOrder T) (pa_cons (pv 0) pa_nil)))) pss_nil) (pss_one (ps_for (passes_of rfl) rfl (pi_tupK (K := K) rfl (pv 4)) (pg_name (i := 5) sc.nd rfl (by first | exact Or.inl rfl | exact Or.inr rfl)) (pss_cons (ps_if (PW.pt (pw_or (pt_cmpR (or_sinW (w := w) rfl) (pv 5) (pv 3) (by rfl)) (pw_or1 (pt_not (pt_chain op_le op_lt pe_int (pv 5) (pv 2)))))) (pss_one (ps_raise rfl (takes_of rfl rfl rfl rfl) (pmk_oex (fx_oex_BadOrder T) (fx_init_BadOrder T).1 (fx_init_BadOrder T).2 X_BadOrder (hr.mono (by decide)) bX_BadOrder .nil passN rfl (g_BadOrder T) (pa_cons (pv 0) pa_nil)))) pss_nil) (pss_one (ps_expr (pe_saddW (w := w) rfl (pv 3) (pa_cons (pv 5) pa_nil))))))))) (pss_one (ps_if (pt_cmpR op_ne (pe_callB (cr_lenSetW (w := w) rfl) rfl (f_len T) PySem.boot_len (pa_cons (pv 3) pa_nil)) (pv 2) (nomark _)) (pss_one (ps_raise rfl (takes_of rfl rfl rfl rfl) (pmk_oex (fx_oex_BadOrder T) (fx_init_BadOrder T).1 (fx_init_BadOrder T).2 X_BadOrder (hr.mono (by decide)) bX_BadOrder .nil passN rfl (g_BadOrder T) (pa_cons (pv 0) pa_nil)))) pss_nil)))), ?_⟩, FD.bindsN fun _ _ _ _ _ _ us hl => match us, hl with | [_, _, _], _ => rfl, FD.kp⟩
  intro F xw
  cases hR with
  | ok p n l h =>
    have hz := h.sz
    refine q_seq (s_set0 fun sa => ?_)
    refine q_forAE (eT D.int) (fun xs : List Int => [.d (.int p), .d (eO l), .d (.int n), .ow (some sa) (.set w sa xs), .un, .un]) (fun i xs => xs = (l.take i).flatten) (src_tupM (enc := (eT D.int)) (ev_var rfl)) [] rfl (hb := fun i g xs hg hi => gd_name ?_) (hd := fun xs hi => ?_)
    · subst hi
      refine q_seq (s_if (evt_not (evt_tru (ev_var rfl) rfl)) (fun hb => ?_) (fun hb => ?_))
      · exfalso
        exact h.ne g (List.mem_of_getElem? hg) (by simpa using hb)
      refine s_next ?_
      refine s_forAE D.int (fun ys : List Int => [.d (.int p), .d (eO l), .d (.int n), .ow (some sa) (.set w sa ys), .un, .un]) (fun j ys => ys = (l.take i).flatten ++ g.take j) (src_tupM (enc := D.int) (ev_var rfl)) ((l.take i).flatten) (by simp) (hb := fun j t ys ht hj => gd_name ?_) (hd := fun ys δ2 hj hl => ?_)
      · subst hj
        have hf := h.fresh hg ht
        have hr := h.rng g (List.mem_of_getElem? hg) t (List.mem_of_getElem? ht)
        have hl2 := h.len2 (j := j) hg
        refine q_seq (s_if (evt_or (evt_test (ev_sin rfl (ev_var rfl))) (fun hc => (evt_not (evt_test (ev_chainI ev_int (ev_var rfl) (fun _ => (ev_var rfl))))))) (fun hb => ?_) (fun hb => ?_))
        · exfalso
          rw [decide_eq_false hf] at hb
          simp at hb
          omega
        refine s_next ?_
        refine s_sadd rfl (ev_var rfl) (by omega) ?_
        have e : insS ((l.take i).flatten ++ g.take j) t = (l.take i).flatten ++ g.take (j + 1) := by
          unfold insS
          rw [if_neg hf, List.take_succ, ht]
          simp
        rw [e]
        exact at_mk _ rfl
      · subst hj
        refine ⟨_, ?_, hl⟩
        rw [h.part hg, List.take_length]
    · subst hi
      rw [List.take_length]
      refine s_if (evt_test (ev_nei (ev_slen rfl) (ev_var rfl))) (fun hb => ?_) (fun hb => ?_)
      · exfalso
        rw [h.len] at hb
        simp at hb
      exact s_next rfl
/-! ### _checked_copies -/
structure CopOk (n p : Nat) (c : List Int) : Prop where
  len : c.length = n
  rng : ∀ e ∈ c, 1 ≤ e ∧ e ≤ 12
  sum : (p : Int) ≤ c.sum
  sz : n ≤ 1000
inductive R_cc : List D → Rs → Prop
  | ok (n p : Nat) (c : List Int) (h : CopOk n p c) : R_cc [eL D.int c, .int n, .int p] (.d (eT D.int c))
theorem ok__checked_copies (T : Tx K mg) : ∃ fd, FnOk pw w K mg base (L2.CX pw w) 3 (He.ga K "_checked_copies") fd ["copies", "things", "people"] (spR K R_cc) ∧ Binds K fd ["copies", "things", "people"] [] ∧ PySem.W.keepIn K (.ref (He.ga K "_checked_copies")) = true := by
  obtain ⟨fdX_BadCopies, X_BadCopies, bX_BadCopies⟩ := ok_BadCopies___init__ (w := w) (base := base) T
  obtain ⟨fdX_TooFewCopies, X_TooFewCopies, bX_TooFewCopies⟩ := ok_TooFewCopies___init__ (w := w) (base := base) T
  obtain ⟨fd, FD⟩ := T.c.def_ 4 (d := d__checked_copies) rfl
  have sc := sc__checked_copies
  refine ⟨fd, fnR FD sc (fun ds r h => by cases h <;> rfl) fun cdv A outer s H E hr ds r hR => ⟨_, (pss_cons (ps_if (pt_cmpR op_isN (pv 0) pe_non (nomark _)) (pss_one (ps_set (i := 0) sc.nd rfl (by first | exact Or.inl rfl | exact Or.inr rfl) (pe_op op_rep (pe_lst (pa_cons pe_int pa_nil)) (pv 1)))) pss_nil) (pss_cons (ps_if (pt_cmpR op_ne (pe_callB (call_len_seqK (K := K) rfl) rfl (f_len T) PySem.boot_len (pa_cons (pv 0) pa_nil)) (pv 1) (nomark _)) (pss_one (ps_raise rfl (takes_of rfl rfl rfl rfl) (pmk_oex (fx_oex_BadCopies T) (fx_init_BadCopies T).1 (fx_init_BadCopies T).2 X_BadCopies (hr.mono (by decide)) bX_BadCopies .nil passN rfl (g_BadCopies T) (pa_cons pe_non pa_nil)))) pss_nil) (pss_cons (ps_for (passes_of rfl) rfl (pi_range1 rfl (f_range T) (pa_cons (pv 1) pa_nil)) (pg_name (i := 3) sc.nd rfl (by first | exact Or.inl rfl | exact Or.inr rfl)) (pss_one (ps_if (pt_not (pt_chain op_le op_le pe_int (pe_ix (ix_listK (K := K) rfl) (pv 0) (pv 3) (fun _ _ => rfl)) (pe_gint rfl (c_MOST T)))) (pss_one (ps_raise rfl (takes_of rfl rfl rfl rfl) (pmk_oex (fx_oex_BadCopies T) (fx_init_BadCopies T).1 (fx_init_BadCopies T).2 X_BadCopies (hr.mono (by decide)) bX_BadCopies .nil passN rfl (g_BadCopies T) (pa_cons (pv 3) pa_nil)))) pss_nil))) (pss_cons (ps_if (pt_cmpR op_lt (pe_callB (cr_sumK (K := K) rfl rfl) rfl (f_sum T) (by decide +kernel) (pa_cons (pv 0) pa_nil)) (pv 2) (nomark _)) (pss_one (ps_raise rfl (takes_of rfl rfl rfl rfl) (pmk_oex (fx_oex_TooFewCopies T) (fx_init_TooFewCopies T).1 (fx_init_TooFewCopies T).2 X_TooFewCopies (hr.mono (by decide)) bX_TooFewCopies .nil passN rfl (g_TooFewCopies T) (pa_cons (pe_op op_sub (pv 2) (pe_callB (cr_sumK (K := K) rfl rfl) rfl (f_sum T) (by decide +kernel) (pa_cons (pv 0) pa_nil))) pa_nil)))) pss_nil) (pss_one (ps_ret (pe_callTy (call_tuple_ofK (K := K) rfl) rfl (f_tuple T) (by decide +kernel) (pa_cons (pv 0) pa_nil)))))))), ?_⟩, FD.bindsN fun _ _ _ _ _ _ us hl => match us, hl with | [_, _, _], _ => rfl, FD.kp⟩
  intro F xw
  cases hR with
  | ok n p c h =>
    have hl := h.len
    have hz := h.sz
    have hs := h.sum
    refine q_seq (s_if (evt_test (ev_isN (ev_var rfl))) (fun hb => by cases hb) (fun hb => s_next ?_))
    refine q_seq (s_if (evt_test (ev_nei (ev_lenM (f := D.int) (ev_var rfl)) (ev_var rfl))) (fun hb => ?_) (fun hb => ?_))
    · exfalso
      rw [hl] at hb
      simp at hb
    refine s_next ?_
    refine q_forE (fun _ : Unit => [.d (eL D.int c), .d (.int n), .d (.int p), .un]) (fun _ _ => True) (src_rngN (eva_cons (ev_var rfl) eva_nil) (by first | omega | (simp; omega) | (simp at *; omega))) () trivial (hb := fun i _ hi _ => gd_name ?_) (hd := fun _ _ => ?_)
    · have hr := h.rng (c.getD i 0) (getD_mem (by omega))
      refine s_if (evt_not (evt_test (ev_chainI ev_int (ev_ixLM (f := D.int) (z := 0) (ev_var rfl) (ev_var rfl) (by omega) (by omega)) (fun _ => ev_int)))) (fun hb => ?_) (fun hb => ?_)
      · exfalso
        rw [Int.toNat_natCast] at hb
        simp only [Bool.not_eq_true', Bool.and_eq_false_iff, decide_eq_false_iff_not] at hb
        omega
      exact s_next (at_mk () trivial)
    · refine q_seq (s_if (evt_test (ev_ob (ev_sumL (ev_var rfl)) (ev_var rfl))) (fun hb => ?_) (fun hb => ?_))
      · exfalso
        have := of_decide_eq_true hb
        omega
      refine s_next ?_
      refine s_ret (ev_tofL (ev_var rfl)) ?_
      rfl
/-! ### _ranks -/
def rankG (rk : List Int) (g : List Int × Nat) : List Int := g.1.foldl (fun rk t => rk.set t.toNat g.2) rk
def rankL (n : Nat) (l : List (List Int)) : List Int := l.zipIdx.foldl rankG (List.replicate n 0)
theorem setG_len (i : Nat) : ∀ (g : List Int) (rk : List Int), (g.foldl (fun rk t => rk.set t.toNat (i : Int)) rk).length = rk.length
  | [], _ => rfl
  | t :: g, rk => by
    show (g.foldl _ (rk.set t.toNat i)).length = _
    rw [setG_len i g, List.length_set]
theorem rankG_len (rk : List Int) (g : List Int × Nat) : (rankG rk g).length = rk.length := setG_len g.2 g.1 rk
theorem rankF_len : ∀ (l : List (List Int × Nat)) (rk : List Int), (l.foldl rankG rk).length = rk.length
  | [], _ => rfl
  | g :: l, rk => by
    show (l.foldl rankG (rankG rk g)).length = _
    rw [rankF_len l, rankG_len]
theorem rankL_len (n : Nat) (l : List (List Int)) : (rankL n l).length = n := by
  unfold rankL
  rw [rankF_len, List.length_replicate]
inductive R_rk : List D → Rs → Prop
  | mk (n : Nat) (l : List (List Int)) (h : ∀ g ∈ l, ∀ t ∈ g, 0 ≤ t ∧ t < (n : Int)) (hz : n ≤ 1000) : R_rk [eO l, .int n] (.d (eT D.int (rankL n l)))
theorem ok__ranks (T : Tx K mg) : ∃ fd, FnOk pw w K mg base (L2.CX pw w) 1 (He.ga K "_ranks") fd ["order", "things"] (spR K R_rk) ∧ Binds K fd ["order", "things"] [] ∧ PySem.W.keepIn K (.ref (He.ga K "_ranks")) = true := by
  obtain ⟨fd, FD⟩ := T.c.def_ 5 (d := d__ranks) rfl
  have sc := sc__ranks
  refine ⟨fd, fnR FD sc (fun ds r h => by cases h <;> rfl) fun cdv A outer s H E hr ds r hR => ⟨_, (pss_cons (ps_set (i := 2) sc.nd rfl (by first | exact Or.inl rfl | exact Or.inr rfl) (pe_op op_rep (pe_lst (pa_cons pe_int pa_nil)) (pv 1))) (pss_cons (ps_for (passes_of rfl) rfl (Sq.pi_en (K := K) true rfl rfl (f_enumerate T) (pa_cons (pv 0) pa_nil)) (pg_tupK (K := K) (n := 2) rfl rfl (pgs_cons (pg_name (i := 3) sc.nd rfl (by first | exact Or.inl rfl | exact Or.inr rfl)) (pgs_cons (pg_name (i := 4) sc.nd rfl (by first | exact Or.inl rfl | exact Or.inr rfl)) pgs_nil))) (pss_one (ps_for (passes_of rfl) rfl (pi_tupK (K := K) rfl (pv 4)) (pg_name (i := 5) sc.nd rfl (by first | exact Or.inl rfl | exact Or.inr rfl)) (pss_one (ps_asg (pv 3) (pg_sub (pv 2) (pv 5) set_list)))))) (pss_one (ps_ret (pe_callTy (call_tuple_ofK (K := K) rfl) rfl (f_tuple T) (by decide +kernel) (pa_cons (pv 2) pa_nil)))))), ?_⟩, FD.bindsN fun _ _ _ _ _ _ us hl => match us, hl with | [_, _], _ => rfl, FD.kp⟩
  intro F xw
  cases hR with
  | mk n l h hz =>

    refine q_seq (s_setl (evl_repM ev_int (ev_var rfl) (by omega)) ?_)
    rw [Int.toNat_natCast]
    refine q_forF (eI (eT D.int)) (fun rk : List Int => [.d (eO l), .d (.int n), .own (.lst (rk.map D.int)), .un, .un, .un]) rankG (fun _ rk => rk.length = n) (src_enM (b := true) (enc := (eT D.int)) (ev_var rfl)) (List.replicate n 0) (by simp) (hb := fun i x rk hx hl => ⟨(rankG_len rk x).trans hl, gd_tup2 ?_⟩) (hd := fun hl => ?_)
    · obtain ⟨hx1, hx2⟩ := zipIdx_at hx
      refine s_forAE D.int (fun ys : List Int => [.d (eO l), .d (.int n), .own (.lst (ys.map D.int)), .d (.int x.2), .d (eT D.int x.1), .un]) (fun j ys => ys = (x.1.take j).foldl (fun rk t => rk.set t.toNat (x.2 : Int)) rk) (src_tupM (enc := D.int) (ev_var rfl)) rk rfl (hb := fun j t ys ht hj => gd_name ?_) (hd := fun ys δ2 hj hl2 => ?_)
      · subst hj
        have hr := h x.1 (List.mem_of_getElem? hx1) t (List.mem_of_getElem? ht)
        have hl3 := setG_len x.2 (x.1.take j) rk
        refine s_seto rfl (ev_var rfl) (ev_var rfl) (ixN_ok (by omega) (by rw [List.length_map, hl3]; omega)) ?_
        rw [map_setI]
        refine at_mk _ ?_
        rw [List.take_succ, ht, List.foldl_append]
        rfl
      · subst hj
        rw [List.take_length] at hl2
        exact hl2.trans (by repeat (first | exact trivial | refine ⟨Or.inl rfl, ?_⟩ | refine ⟨Or.inr rfl, ?_⟩))
    · refine s_ret (ev_rd (by first | rfl | exact pures_int _ | exact pures_bl _ | decide) (ev_tofL (ev_var rfl))) ?_
      rfl
/-! ### Wishes -/
abbrev wishFs (p n : Nat) (o : List (List (List Int))) (c : List Int) : List (Str × D) := [("people", .int p), ("things", .int n), ("orders", eT eO o), ("copies", eT D.int c), ("ranks", eT (eT D.int) (o.map (rankL n)))]
structure WOk (n : Nat) (os : List (List (List Int))) (c : List Int) : Prop where
  p1 : 1 ≤ os.length ∧ os.length ≤ 12
  n1 : 1 ≤ n ∧ n ≤ 12
  ord : ∀ l ∈ os, OrdOk n l
  cop : CopOk n os.length c
theorem sum_len : ∀ l : List (List Int), (l.map fun g => (g.length : Int)).sum = (l.flatten.length : Int)
  | [] => rfl
  | g :: l => by
    rw [List.map_cons, List.sum_cons, sum_len l, List.flatten_cons, List.length_append]
    omega
theorem OrdOk.cnt {n : Nat} {l : List (List Int)} (h : OrdOk n l) : l.length ≤ n := by
  have h1 := h.ne
  have h2 := h.len
  rw [← h2]
  clear h h2
  induction l with
  | nil => simp
  | cons g l ih =>
    have h3 := ih fun g hg => h1 g (List.mem_cons_of_mem _ hg)
    have h4 : g.length ≠ 0 := fun z => h1 g List.mem_cons_self (List.eq_nil_of_length_eq_zero z)
    simp at h3 ⊢
    omega
theorem OrdOk.gl {n : Nat} {l : List (List Int)} (h : OrdOk n l) {g : List Int} (hg : g ∈ l) : g.length ≤ n := by
  obtain ⟨i, hi⟩ := List.mem_iff_getElem?.mp hg
  obtain ⟨r, hr⟩ := flat_split hi
  have := h.len
  rw [hr] at this
  simp at this
  omega
inductive R_wish : List D → Ri → Prop
  | ok (d : D) (n : Nat) (os : List (List (List Int))) (c : List Int) (hd : okF 3 d = true) (hf : frz d = eT eO os) (h : WOk n os c) : R_wish [d, eL D.int c] (.ok (wishFs os.length n (os.map fun l => l.map sortI) c))
theorem mkI_Wishes (T : Tx K mg) : ∃ fd, FnOk pw w K mg base (L2.CX pw w) 5 (He.ma K (He.ga K "Wishes") "__init__") fd ["self", "orders", "copies"] (spI K (He.ga K "Wishes") R_wish) ∧ KBn K fd ["self", "orders", "copies"] 2 ["copies"] (fun us ws => us ++ ws) (fun vs zs => vs ++ zs) := by
  obtain ⟨fd_frozen, F_frozen, b_frozen, k_frozen⟩ := ok_frozen (w := w) (base := base) T
  obtain ⟨fd_check_size, F_check_size, b_check_size, k_check_size⟩ := ok_check_size (w := w) (base := base) T
  obtain ⟨fd_check_order, F_check_order, b_check_order, k_check_order⟩ := ok_check_order (w := w) (base := base) T
  obtain ⟨fd__checked_copies, F__checked_copies, b__checked_copies, k__checked_copies⟩ := ok__checked_copies (w := w) (base := base) T
  obtain ⟨fd__ranks, F__ranks, b__ranks, k__ranks⟩ := ok__ranks (w := w) (base := base) T
  obtain ⟨fd, FD⟩ := T.c.def_ 24 (d := d_Wishes___init__) rfl
  have sc := sc_Wishes___init__
  refine ⟨fd, fnI FD sc (fun ds r h => by cases h <;> rfl) fun cdv A outer s H E hr ds r hR => ⟨_, (pss_cons (ps_set (i := 1) sc.nd rfl (by first | exact Or.inl rfl | exact Or.inr rfl) (pe_callSD F_frozen (hr.mono (by decide)) rfl (g_frozen T) k_frozen b_frozen .nil (fun σ => passAt (takes_of rfl rfl rfl rfl) σ) (pa_cons (pv 1) pa_nil))) (pss_cons (ps_fldK (K := K) rfl (pv 0) (pe_callB (call_len_seqK (K := K) rfl) rfl (f_len T) PySem.boot_len (pa_cons (pv 1) pa_nil)) rfl) (pss_cons (ps_expr (pe_callSD F_check_size (hr.mono (by decide)) rfl (g_check_size T) k_check_size b_check_size .nil (fun σ => passAt (takes_of rfl rfl rfl rfl) σ) (pa_cons (pe_fldK (K := K) rfl (pv 0) rfl) pa_nil))) (pss_cons (ps_fldK (K := K) rfl (pv 0) (pe_callB (cr_sumK (K := K) rfl rfl) rfl (f_sum T) (by decide +kernel) (pa_cons (pe_lc (own := [("group", 4)]) (g := gName 4) (tt := tYes) rfl sc.nd (pi_tupK (K := K) rfl (pe_ix (ix_tupK (K := K) rfl) (pv 1) pe_int (fun _ _ => rfl))) (blkOk_by (N := ["self", "orders", "copies", "person", "group", "order"]) (sc := defScope s_Wishes___init__) (by decide +kernel)) (fun _ _ _ _ _ => (pg_name (i := 4) sc.nd rfl (by first | exact Or.inl rfl | exact Or.inr rfl))) (fun _ _ _ _ _ => pts_nil) (fun _ _ _ _ _ => (pe_callB (call_len_seqK (K := K) rfl) rfl (f_len T) PySem.boot_len (pa_cons (pv 4) pa_nil)))) pa_nil)) rfl) (pss_cons (ps_expr (pe_callSD F_check_size (hr.mono (by decide)) rfl (g_check_size T) k_check_size b_check_size .nil (fun σ => passAt (takes_of rfl rfl rfl rfl) σ) (pa_cons (pe_fldK (K := K) rfl (pv 0) rfl) pa_nil))) (pss_cons (ps_for (passes_of rfl) rfl (pi_range1 rfl (f_range T) (pa_cons (pe_fldK (K := K) rfl (pv 0) rfl) pa_nil)) (pg_name (i := 3) sc.nd rfl (by first | exact Or.inl rfl | exact Or.inr rfl)) (pss_one (ps_expr (pe_callSD F_check_order (hr.mono (by decide)) rfl (g_check_order T) k_check_order b_check_order .nil (fun σ => passAt (takes_of rfl rfl rfl rfl) σ) (pa_cons (pv 3) (pa_cons (pe_ix (ix_tupK (K := K) rfl) (pv 1) (pv 3) (fun _ _ => rfl)) (pa_cons (pe_fldK (K := K) rfl (pv 0) rfl) pa_nil))))))) (pss_cons (ps_fldK (K := K) rfl (pv 0) (pe_callTy (call_tuple_ofK (K := K) rfl) rfl (f_tuple T) (by decide +kernel) (pa_cons (pe_lc (own := [("order", 5)]) (g := gName 5) (tt := tYes) rfl sc.nd (pi_tupK (K := K) rfl (pv 1)) (blkOk_by (N := ["self", "orders", "copies", "person", "group", "order"]) (sc := defScope s_Wishes___init__) (by decide +kernel)) (fun _ _ _ _ _ => (pg_name (i := 5) sc.nd rfl (by first | exact Or.inl rfl | exact Or.inr rfl))) (fun _ _ _ _ _ => pts_nil) (fun _ _ _ _ _ => (pe_callTy (call_tuple_ofK (K := K) rfl) rfl (f_tuple T) (by decide +kernel) (pa_cons (pe_lc (own := [("group", 4)]) (g := gName 4) (tt := tYes) rfl sc.nd (pi_tupK (K := K) rfl (pv 5)) (blkOk_by (N := ["self", "orders", "copies", "person", "group", "order"]) (by kernel_rfl)) (fun _ _ _ _ _ => (pg_name (i := 4) sc.nd rfl (by first | exact Or.inl rfl | exact Or.inr rfl))) (fun _ _ _ _ _ => pts_nil) (fun _ _ _ _ _ => (pe_callTy (call_tuple_ofK (K := K) rfl) rfl (f_tuple T) (by decide +kernel) (pa_cons (pe_callB (cr_sortedUK (K := K) rfl) rfl (f_sorted T) (by decide +kernel) (pa_cons (pv 4) pa_nil)) pa_nil)))) pa_nil)))) pa_nil)) rfl) (pss_cons (ps_fldK (K := K) rfl (pv 0) (pe_callSD F__checked_copies (hr.mono (by decide)) rfl (g__checked_copies T) k__checked_copies b__checked_copies .nil (fun σ => passAt (takes_of rfl rfl rfl rfl) σ) (pa_cons (pv 2) (pa_cons (pe_fldK (K := K) rfl (pv 0) rfl) (pa_cons (pe_fldK (K := K) rfl (pv 0) rfl) pa_nil)))) rfl) (pss_one (ps_fldK (K := K) rfl (pv 0) (pe_callTy (call_tuple_ofK (K := K) rfl) rfl (f_tuple T) (by decide +kernel) (pa_cons (pe_lc (own := [("order", 5)]) (g := gName 5) (tt := tYes) rfl sc.nd (pi_tupK (K := K) rfl (pe_fldK (K := K) rfl (pv 0) rfl)) (blkOk_by (N := ["self", "orders", "copies", "person", "group", "order"]) (sc := defScope s_Wishes___init__) (by decide +kernel)) (fun _ _ _ _ _ => (pg_name (i := 5) sc.nd rfl (by first | exact Or.inl rfl | exact Or.inr rfl))) (fun _ _ _ _ _ => pts_nil) (fun _ _ _ _ _ => (pe_callSD F__ranks (hr.mono (by decide)) rfl (g__ranks T) k__ranks b__ranks .nil (fun σ => passZ σ) (pa_cons (pv 5) (pa_cons (pe_fldK (K := K) rfl (pv 0) rfl) pa_nil))))) pa_nil)) rfl)))))))))), ?_⟩, (by obtain ⟨mv, kb⟩ := FD.kbinds0 (ps := ["self", "orders", "copies"]) 2 ["copies"] [] (fun a _ c => a ++ c) (List.cons_ne_nil _ _) (fun q hq => by cases hq) (fun r1 r2 r3 => r1.append r3) (fun D doc pm an cdv ct us mv ws h1 h2 h3 => match us, h1, mv, h2, ws, h3 with | [_, _], _, [], _, [_], _ => rfl); exact kb)⟩
  intro F x xw
  cases hR with
  | ok d n os c hd hf h =>
    obtain ⟨p1, p2⟩ := h.p1
    obtain ⟨n1, n2⟩ := h.n1
    have hO0 : OrdOk n (os.getD 0 []) := h.ord _ (getD_mem (by omega))
    refine q_seq (s_set (ev_callX (eva_cons (ev_var rfl) eva_nil) (R_frz.mk 3 d hd)) ?_)
    rw [hf]
    refine q_seq (s_fld rfl (ev_lenMT (f := (eT (eT D.int))) (ev_var rfl)) (cls_Wishes T) (noat_Wishes_people T) (Nat.le_of_ble_eq_true rfl) ?_)
    refine q_seq (s_drop (ev_callX (eva_cons (ev_fldO rfl (cls_Wishes T) (noat_Wishes_people T) rfl) eva_nil) (R_size.ok _ (by omega))) ?_)
    refine q_seq (s_fld rfl (ev_sumM (ev_l (evl_mapA (eT D.int) (fun g => .int g.length) (src_tupM (enc := (eT D.int)) (ev_ixTM (f := (eT (eT D.int))) (z := []) (ev_var rfl) ev_int (by omega) (by omega))) (by have := hO0.cnt; simp at *; omega) (fun _ h => h) (fun x hx => gd_name ⟨evt_yes, (Ev.to (ev_lenMT (f := D.int) (ev_var rfl)) (by first | rfl | simp))⟩)))) (cls_Wishes T) (noat_Wishes_things T) (Nat.le_of_ble_eq_true rfl) ?_)
    rw [show (0 : Int).toNat = 0 from rfl, sum_len, hO0.len]
    refine q_seq (s_drop (ev_callX (eva_cons (ev_fldO rfl (cls_Wishes T) (noat_Wishes_things T) rfl) eva_nil) (R_size.ok _ (by omega))) ?_)
    refine q_forE (fun _ : Unit => [.ow (some x) (.ins (He.ga K "Wishes") [("people", .int os.length), ("things", .int n)]), .d (eT eO os), .d (eL D.int c), .un, .un, .un]) (fun _ _ => True) (src_rngN (eva_cons (ev_fldO rfl (cls_Wishes T) (noat_Wishes_people T) rfl) eva_nil) (by first | omega | (simp; omega) | (simp at *; omega))) () trivial (hb := fun i _ hi _ => gd_name ?_) (hd := fun _ _ => ?_)
    · refine s_drop (ev_callX (eva_cons (ev_var rfl) (eva_cons (ev_ixTM (f := (eT (eT D.int))) (z := []) (ev_var rfl) (ev_var rfl) (by omega) (by omega)) (eva_cons (ev_fldO rfl (cls_Wishes T) (noat_Wishes_things T) rfl) eva_nil))) (R_cho.ok i n _ (by rw [Int.toNat_natCast]; exact h.ord _ (getD_mem (by omega))))) ?_
      exact at_mk () trivial
    · refine q_seq (s_fld rfl (ev_tofL (ev_l (evl_mapA (eT (eT D.int)) (fun l => eO (l.map sortI)) (src_tupM (enc := (eT (eT D.int))) (ev_var rfl)) (by omega) (fun _ h => h) (fun x hx => gd_name ⟨evt_yes, (Ev.to (ev_tofL (ev_l (evl_mapA (eT D.int) (fun g => eT D.int (sortI g)) (src_tupM (enc := (eT D.int)) (ev_var rfl)) (by have := (h.ord x hx).cnt; omega) (fun _ h => h) (fun x1 hx1 => gd_name ⟨evt_yes, (Ev.to (ev_tofL (ev_l (evl_sortedU (ev_var rfl)))) (by first | rfl | simp))⟩)))) (by first | rfl | simp))⟩)))) (cls_Wishes T) (noat_Wishes_orders T) (Nat.le_of_ble_eq_true rfl) ?_)
      rw [show (os.map fun l => eO (l.map sortI)) = (os.map fun l => l.map sortI).map eO from by rw [List.map_map]; rfl]
      refine q_seq (s_fld rfl (ev_callX (eva_cons (ev_var rfl) (eva_cons (ev_fldO rfl (cls_Wishes T) (noat_Wishes_things T) rfl) (eva_cons (ev_fldO rfl (cls_Wishes T) (noat_Wishes_people T) rfl) eva_nil))) (R_cc.ok n os.length c h.cop)) (cls_Wishes T) (noat_Wishes_copies T) (Nat.le_of_ble_eq_true rfl) ?_)
      refine s_fld rfl (ev_tofL (ev_l (evl_mapA (eT (eT D.int)) (fun l => eT D.int (rankL n l)) (src_tupM (enc := (eT (eT D.int))) (ev_fldO rfl (cls_Wishes T) (noat_Wishes_orders T) rfl)) (by simp; omega) (fun _ h => h) (fun x hx => gd_name ⟨evt_yes, (Ev.to (ev_callX (eva_cons (ev_var rfl) (eva_cons (ev_fldO rfl (cls_Wishes T) (noat_Wishes_things T) rfl) eva_nil)) (R_rk.mk n x (fun g hg t ht => ?_) (by omega))) (by first | rfl | simp))⟩)))) (cls_Wishes T) (noat_Wishes_ranks T) (Nat.le_of_ble_eq_true rfl) ?_
      · obtain ⟨l, hl, rfl⟩ := List.mem_map.mp hx
        obtain ⟨g', hg', rfl⟩ := List.mem_map.mp hg
        exact (h.ord l hl).rng g' hg' t ((sortI_perm g').mem_iff.mp ht)
      rw [show D.tup ((os.map fun l => l.map sortI).map fun l => eT D.int (rankL n l)) = eT (eT D.int) ((os.map fun l => l.map sortI).map (rankL n)) from congrArg D.tup (List.map_map (f := rankL n) (g := eT D.int)).symm]
      exact ⟨_, rfl, rfl⟩
end
end G17
set_option Elab.async false
set_option linter.all false
set_option maxRecDepth 100000
set_option maxHeartbeats 4000000
set_option exponentiation.threshold 2000
namespace G17
open PySem PySem.Spec PyProof.Rows L2 L3
section
variable {w : World} {K : PySem.W.Frag} {mg : Str → Option Value} {base : Heap}
def cell (ns : List Int) (k : Int) : Int := if k < ns.length then (if ns.getD k.toNat 0 < 0 then -(ns.getD k.toNat 0) else ns.getD k.toNat 0) else 0
inductive R_cell : List D → Rs → Prop
  | mk (ns : List Int) (k : Int) (h : 0 ≤ k) : R_cell [.scr ns, .int k] (.d (.int (cell ns k)))
theorem ok__law_cell (T : Tx K mg) : ∃ fd, FnOk pw w K mg base (L2.CX pw w) 1 (He.ga K "_law_cell") fd ["script", "k"] (spR K R_cell) ∧ Binds K fd ["script", "k"] [] ∧ PySem.W.keepIn K (.ref (He.ga K "_law_cell")) = true := by
  obtain ⟨fd, FD⟩ := T.c.def_ 10 (d := d__law_cell) rfl
  have sc := sc__law_cell
  refine ⟨fd, fnR FD sc (fun ds r h => by cases h <;> rfl) fun cdv A outer s H E hr ds r hR => ⟨_, (pss_cons (ps_if (pt_cmpR op_lt (pv 1) (pe_callB (call_len_seqK (K := K) rfl) rfl (f_len T) PySem.boot_len (pa_cons (pv 0) pa_nil)) (nomark _)) (pss_one (ps_ret (pe_callB call_abs rfl (f_abs T) (by decide +kernel) (pa_cons (pe_callTy call_int1 rfl (f_int T) (by decide +kernel) (pa_cons (pe_ix (ix_listK (K := K) rfl) (pv 0) (pv 1) (fun _ _ => rfl)) pa_nil)) pa_nil)))) pss_nil) (pss_one (ps_ret pe_int))), ?_⟩, FD.bindsN fun _ _ _ _ _ _ us hl => match us, hl with | [_, _], _ => rfl, FD.kp⟩
  intro F xw
  cases hR with
  | mk ns k h0 =>
    refine q_seq (s_if (evt_test (ev_ob (ev_var rfl) (ev_lenS (ev_var rfl)))) (fun hb => ?_) (fun hb => ?_))
    · have hb' : k < ns.length := by simpa using hb
      refine s_ret (ev_abs (ev_int1 (ev_ixS (n := ns.getD k.toNat 0) (ev_var rfl) (ev_var rfl) (atI_getD _ h0 hb')))) ?_
      show Rs.d _ = Rs.d _
      unfold cell
      rw [if_pos hb']
    · have hb' : ¬ k < ns.length := by simpa using hb
      refine s_next (s_ret ev_int ?_)
      show Rs.d _ = Rs.d _
      unfold cell
      rw [if_neg hb']
/-! ### a drawn row -/
def drawStep (below : Int) (i : Nat) (s : Int × Int × List Int) : Int × Int × List Int :=
  let m1 := (s.2.1 * 48271 + 11 * (i : Int) + 5) % 2147483647
  let m2 := (m1 * m1 + 3) % 1000000007
  if 0 < s.1 then (s.1 / below, m2, s.2.2 ++ [s.1 % below]) else (s.1, m2, s.2.2 ++ [m2 / 7 % below])
def drawSt (cell below : Int) : Nat → Int × Int × List Int
  | 0 => (if 1000000000000000000 ≤ cell then cell else 0, cell % 2147483647, [])
  | i + 1 => drawStep below i (drawSt cell below i)
def drawn (cell : Int) (many : Nat) (below : Int) : List Int := (drawSt cell below many).2.2
theorem drawSt_mid (cell below : Int) (i : Nat) : 0 ≤ (drawSt cell below i).2.1 ∧ (drawSt cell below i).2.1 < 2147483647 := by
  cases i with
  | zero => exact ⟨Int.emod_nonneg _ (by decide), Int.emod_lt_of_pos _ (by decide)⟩
  | succ i =>
    have h : (drawSt cell below (i + 1)).2.1 = ((((drawSt cell below i).2.1 * 48271 + 11 * (i : Int) + 5) % 2147483647) * (((drawSt cell below i).2.1 * 48271 + 11 * (i : Int) + 5) % 2147483647) + 3) % 1000000007 := by
      show (drawStep below i (drawSt cell below i)).2.1 = _
      unfold drawStep
      simp only
      split <;> rfl
    rw [h]
    have h1 := Int.emod_nonneg ((((drawSt cell below i).2.1 * 48271 + 11 * (i : Int) + 5) % 2147483647) * (((drawSt cell below i).2.1 * 48271 + 11 * (i : Int) + 5) % 2147483647) + 3) (show (1000000007 : Int) ≠ 0 by decide)
    have h2 := Int.emod_lt_of_pos ((((drawSt cell below i).2.1 * 48271 + 11 * (i : Int) + 5) % 2147483647) * (((drawSt cell below i).2.1 * 48271 + 11 * (i : Int) + 5) % 2147483647) + 3) (show (0 : Int) < 1000000007 by decide)
    omega
theorem drawn_len (cell below : Int) (i : Nat) : (drawn cell i below).length = i := by
  unfold drawn
  induction i with
  | zero => rfl
  | succ i ih =>
    show (drawStep below i (drawSt cell below i)).2.2.length = _
    unfold drawStep
    simp only
    split <;> simp [ih]
theorem drawn_in (cell below : Int) (hb : 0 < below) (i : Nat) : ∀ x ∈ drawn cell i below, 0 ≤ x ∧ x < below := by
  unfold drawn
  induction i with
  | zero =>
    intro x hx
    cases hx
  | succ i ih =>
    intro x hx
    have hx' : x ∈ (drawStep below i (drawSt cell below i)).2.2 := hx
    unfold drawStep at hx'
    simp only at hx'
    split at hx'
    · rcases List.mem_append.mp hx' with h | h
      · exact ih x h
      · rw [List.mem_singleton.mp h]
        exact ⟨Int.emod_nonneg _ (by omega), Int.emod_lt_of_pos _ hb⟩
    · rcases List.mem_append.mp hx' with h | h
      · exact ih x h
      · rw [List.mem_singleton.mp h]
        exact ⟨Int.emod_nonneg _ (by omega), Int.emod_lt_of_pos _ hb⟩
inductive R_drawn : List D → Rs → Prop
  | mk (cell : Int) (many : Nat) (below : Int) (hm : many ≤ 1000) (hb : 0 < below) (hz : below.natAbs < 2 ^ 200) : R_drawn [.int cell, .int many, .int below] (.l ((drawn cell many below).map D.int))
theorem nab {m : Int} (h0 : 0 ≤ m) (h : m < 2147483648) : m.natAbs < 2 ^ 31 := by omega
theorem ok__law_drawn (T : Tx K mg) : ∃ fd, FnOk pw w K mg base (L2.CX pw w) 1 (He.ga K "_law_drawn") fd ["cell", "many", "below"] (spR K R_drawn) ∧ Binds K fd ["cell", "many", "below"] [] ∧ PySem.W.keepIn K (.ref (He.ga K "_law_drawn")) = true := by
  obtain ⟨fd, FD⟩ := T.c.def_ 11 (d := d__law_drawn) rfl
  have sc := sc__law_drawn
  refine ⟨fd, fnR FD sc (fun ds r h => by cases h <;> rfl) fun cdv A outer s H E hr ds r hR => ⟨_, (pss_cons (ps_set (i := 3) sc.nd rfl (by first | exact Or.inl rfl | exact Or.inr rfl) pe_int) (pss_cons (ps_if (pt_cmpR op_ge (pv 0) (pe_op op_pow pe_int pe_int) (nomark _)) (pss_one (ps_set (i := 3) sc.nd rfl (by first | exact Or.inl rfl | exact Or.inr rfl) (pv 0))) pss_nil) (pss_cons (ps_set (i := 4) sc.nd rfl (by first | exact Or.inl rfl | exact Or.inr rfl) (pe_op op_mod (pe_callTy call_int1 rfl (f_int T) (by decide +kernel) (pa_cons (pv 0) pa_nil)) pe_int)) (pss_cons (ps_set (i := 5) sc.nd rfl (by first | exact Or.inl rfl | exact Or.inr rfl) (pe_lst pa_nil)) (pss_cons (ps_for (passes_of rfl) rfl (pi_range1 rfl (f_range T) (pa_cons (pv 1) pa_nil)) (pg_name (i := 6) sc.nd rfl (by first | exact Or.inl rfl | exact Or.inr rfl)) (pss_cons (ps_set (i := 4) sc.nd rfl (by first | exact Or.inl rfl | exact Or.inr rfl) (pe_op op_mod (pe_callTy call_int1 rfl (f_int T) (by decide +kernel) (pa_cons (pe_op op_add (pe_op op_add (pe_op op_mulW (pv 4) pe_int) (pe_op op_mulW pe_int (pv 6))) pe_int) pa_nil)) pe_int)) (pss_cons (ps_set (i := 4) sc.nd rfl (by first | exact Or.inl rfl | exact Or.inr rfl) (pe_op op_mod (pe_callTy call_int1 rfl (f_int T) (by decide +kernel) (pa_cons (pe_op op_add (pe_op op_mulW (pv 4) (pv 4)) pe_int) pa_nil)) pe_int)) (pss_one (ps_if (pt_cmpR op_gt (pv 3) pe_int (nomark _)) (pss_cons (ps_expr (pe_appK (K := K) rfl (pv 5) (pa_cons (pe_op op_mod (pe_callTy call_int1 rfl (f_int T) (by decide +kernel) (pa_cons (pv 3) pa_nil)) (pv 2)) pa_nil))) (pss_one (ps_set (i := 3) sc.nd rfl (by first | exact Or.inl rfl | exact Or.inr rfl) (pe_op op_fdivW (pv 3) (pv 2))))) (pss_one (ps_expr (pe_appK (K := K) rfl (pv 5) (pa_cons (pe_op op_mod (pe_callTy call_int1 rfl (f_int T) (by decide +kernel) (pa_cons (pe_op op_fdivW (pv 4) pe_int) pa_nil)) (pv 2)) pa_nil))))))))) (pss_one (ps_ret (pv 5)))))))), ?_⟩, FD.bindsN fun _ _ _ _ _ _ us hl => match us, hl with | [_, _, _], _ => rfl, FD.kp⟩
  intro F xw
  cases hR with
  | mk cell many below hm hb hz =>
    refine q_seq (s_set ev_int ?_)
    refine q_mid (fun δ => δ = [.d (.int cell), .d (.int many), .d (.int below), .d (.int (drawSt cell below 0).1), .un, .un, .un]) ?_ ?_
    · refine s_if (evt_test (ev_ob (ev_var rfl) (ev_ci ev_int ev_int ⟨by decide, by decide, by decide⟩))) (fun hb1 => ?_) (fun hb1 => ?_)
      · have hc : (1000000000000000000 : Int) ≤ cell := by simpa using hb1
        refine s_set (ev_var rfl) ?_
        show _ = [Sl.d (.int cell), .d (.int many), .d (.int below), .d (.int (if (1000000000000000000 : Int) ≤ cell then cell else 0)), .un, .un, .un]
        rw [if_pos hc]
        rfl
      · have hc : ¬ (1000000000000000000 : Int) ≤ cell := by simpa using hb1
        refine s_next ?_
        show _ = [Sl.d (.int cell), .d (.int many), .d (.int below), .d (.int (if (1000000000000000000 : Int) ≤ cell then cell else 0)), .un, .un, .un]
        rw [if_neg hc]
        rfl
    · intro δ1 hδ1
      subst hδ1
      refine q_seq (s_set (ev_ci (ev_int1 (ev_var rfl)) ev_int (by decide)) ?_)
      refine q_seq (s_setl (evl_lst eva_nil) ?_)
      refine q_seq (s_for (src_rng1 (eva_cons (ev_var rfl) eva_nil) (by omega)) (fun i δ => ∃ sk, δ = [.d (.int cell), .d (.int many), .d (.int below), .d (.int (drawSt cell below i).1), .d (.int (drawSt cell below i).2.1), .own (.lst ((drawSt cell below i).2.2.map D.int)), sk])
        ⟨.un, rfl⟩ (fun i δ2 hi hw => gd_name ?_) (fun δ2 hw => ?_))
      · obtain ⟨sk, rfl⟩ := hw
        have hmid := drawSt_mid cell below i
        have hlen := drawn_len cell below i
        have hi' : i < many := by simpa using hi
        generalize hS : drawSt cell below i = S at hmid
        have hlen' : S.2.2.length = i := by rw [← hS]; exact hlen
        have hm1a := Int.emod_nonneg (S.2.1 * 48271 + 11 * (i : Int) + 5) (show (2147483647 : Int) ≠ 0 by decide)
        have hm1b := Int.emod_lt_of_pos (S.2.1 * 48271 + 11 * (i : Int) + 5) (show (0 : Int) < 2147483647 by decide)
        refine q_seq (s_set (ev_ci (ev_int1 (ev_oi (ev_oi (ev_ci (ev_var rfl) ev_int (wide_mul (nab hmid.1 (by omega)) (show (48271 : Int).natAbs < 2 ^ 31 by decide) (by decide) (by decide) (by decide))) (ev_ci ev_int (ev_var rfl) (wide_mul (show (11 : Int).natAbs < 2 ^ 31 by decide) (nab (m := (i : Int)) (by omega) (by omega)) (by decide) (by decide) (by decide)))) ev_int)) ev_int (by decide)) ?_)
        refine q_seq (s_set (ev_ci (ev_int1 (ev_oi (ev_ci (ev_var rfl) (ev_var rfl) (wide_mul (nab hm1a (by omega)) (nab hm1a (by omega)) (by decide) (by decide) (by decide))) ev_int)) ev_int (by decide)) ?_)
        refine s_if (evt_test (ev_ob (ev_var rfl) ev_int)) (fun hb1 => ?_) (fun hb1 => ?_)
        · have hc : 0 < S.1 := by simpa using hb1
          refine q_seq (s_app rfl (ev_ci (ev_int1 (ev_var rfl)) (ev_var rfl) hb) (by rw [List.length_map]; omega) ?_)
          refine s_set (ev_ci (ev_var rfl) (ev_var rfl) (wide_div hb hz (by decide) (by decide))) ?_
          refine ⟨.d (.int i), ?_⟩
          show _ = [Sl.d (.int cell), .d (.int many), .d (.int below), .d (.int (drawStep below i (drawSt cell below i)).1), .d (.int (drawStep below i (drawSt cell below i)).2.1), .own (.lst ((drawStep below i (drawSt cell below i)).2.2.map D.int)), .d (.int i)]
          unfold drawStep
          simp only [hS, if_pos hc, List.map_append]
          rfl
        · have hc : ¬ 0 < S.1 := by simpa using hb1
          refine s_app rfl (ev_ci (ev_int1 (ev_ci (ev_var rfl) ev_int (wide_div (by decide) (show (7 : Int).natAbs < 2 ^ 31 by decide) (by decide) (by decide)))) (ev_var rfl) hb) (by rw [List.length_map]; omega) ?_
          refine ⟨.d (.int i), ?_⟩
          show _ = [Sl.d (.int cell), .d (.int many), .d (.int below), .d (.int (drawStep below i (drawSt cell below i)).1), .d (.int (drawStep below i (drawSt cell below i)).2.1), .own (.lst ((drawStep below i (drawSt cell below i)).2.2.map D.int)), .d (.int i)]
          unfold drawStep
          simp only [hS, if_neg hc, List.map_append]
          rfl
      · obtain ⟨sk, rfl⟩ := hw
        refine s_reto rfl ?_
        show Rs.l _ = Rs.l _
        rw [show ((many : Int)).toNat = many from Int.toNat_natCast many]
        rfl
theorem lgK {n : Int} (h : n.natAbs < 2 ^ 1000) : n.natAbs.log2 < 1920 := by
  by_cases z : n.natAbs = 0
  · rw [z]
    decide
  · exact Nat.lt_of_lt_of_le ((Nat.log2_lt z).mpr h) (by decide)
/-! ### column -/
abbrev encR (r : List Int) : D := .lst (r.map D.int)
abbrev encT (r : List Int) : D := .tup (r.map D.int)
inductive R_col (C : Addr) : List D → Rs → Prop
  | mk (fs : List (Str × D)) (rows : List (List Int)) (k : Nat) (hf : fs.lookup ("rows" : Str) = some (.tup (rows.map encT))) (hk : ∀ r ∈ rows, k < r.length) (hn : rows.length ≤ 1000) : R_col C [.obj C fs, .int k] (.d (.int ((rows.map fun r => r.getD k 0).sum)))
theorem col_ok {f C : Addr} {fd : FuncData} (T : Tx K mg) (FD : FunD K "column" "Grid.column" (defArgs s_Grid_column) (defBody s_Grid_column) (defScope s_Grid_column) [] [] f fd) (c : Cls K C) (n : NoAttr K C "rows") :
    FnOk pw w K mg base (L2.CX pw w) 1 f fd ["self", "thing"] (spR K (R_col C)) := by
  have sc := sc_Grid_column
  refine fnR FD sc (fun ds r h => by cases h <;> rfl) fun cdv A outer s H E hr ds r hR => ⟨_, (pss_one (ps_ret (pe_callB (cr_sumK (K := K) rfl rfl) rfl (f_sum T) (by decide +kernel) (pa_cons (pe_lc (own := [("row", 2)]) (g := gName 2) (tt := tYes) rfl sc.nd (pi_tupK (K := K) rfl (pe_fldK (K := K) rfl (pv 0) rfl)) (blkOk_by (N := ["self", "thing", "row"]) (sc := defScope s_Grid_column) (by decide +kernel)) (fun _ _ _ _ _ => (pg_name (i := 2) sc.nd rfl (by first | exact Or.inl rfl | exact Or.inr rfl))) (fun _ _ _ _ _ => pts_nil) (fun _ _ _ _ _ => (pe_ix (ix_tupK (K := K) rfl) (pv 2) (pv 1) (fun _ _ => rfl)))) pa_nil)))), ?_⟩
  intro F xw
  cases hR with
  | mk fs rows k hf hk hn =>
    refine s_ret (ev_sumL (ns := rows.map fun r : List Int => r.getD k 0) (ev_l (Evl.to (evl_mapA encT (fun r => .int (r.getD k 0)) (src_tup (ev_fld (ev_var rfl) c n hf)) (by omega) (by decide) (fun r hr => gd_name ⟨evt_yes, ev_ixT (ev_var rfl) (ev_var rfl) (atI_mapD D.int 0 (by omega) (by have := hk r hr; omega))⟩)) ?_))) ?_
    rotate_left
    · exact rfl
    rw [List.map_map]
    rfl
theorem okM_Grid_column (T : Tx K mg) : ∃ fd, FnOk pw w K mg base (L2.CX pw w) 1 (He.ma K (He.ga K "Grid") "column") fd ["self", "thing"] (spR K (R_col (He.ga K "Grid"))) ∧ Binds K fd ["self", "thing"] [] ∧ True := by
  obtain ⟨fd, FD⟩ := T.c.def_ 29 (d := d_Grid_column) rfl
  exact ⟨fd, col_ok T FD (cls_Grid T) (noat_Grid_rows T), FD.bindsN fun _ _ _ _ _ _ us hl => match us, hl with | [_, _], _ => rfl, trivial⟩
theorem okM_Table_column (T : Tx K mg) : ∃ fd, FnOk pw w K mg base (L2.CX pw w) 1 (He.ma K (He.ga K "Table") "column") fd ["self", "thing"] (spR K (R_col (He.ga K "Table"))) ∧ Binds K fd ["self", "thing"] [] ∧ True := by
  obtain ⟨fd, FD⟩ := T.c.def_ 31 (d := d_Table_column) rfl
  exact ⟨fd, col_ok T FD (cls_Table T) (noat_Table_rows T), FD.bindsN fun _ _ _ _ _ _ us hl => match us, hl with | [_, _], _ => rfl, trivial⟩
/-! ### Grid -/
structure GridF (K : PySem.W.Frag) (C : Addr) : Prop where
  cls : Cls K C
  people : NoAttr K C "people"
  things : NoAttr K C "things"
  rows : NoAttr K C "rows"
  whole : NoAttr K C "whole"
def badRow (t : Nat) (whole : Int) (r : List Int) : Bool := decide (r.length ≠ t) || r.any fun e => !(decide (0 ≤ e) && decide (e ≤ whole))
def com (whole : Int) (rows : List (List Int)) : Int := rows.foldl (fun c r => r.foldl gcI c) whole
def wid (rows : List (List Int)) : Nat := (rows.getD 0 []).length
def gridFs (rows : List (List Int)) (whole : Int) : List (Str × D) := [("people", .int rows.length), ("things", .int (wid rows)), ("rows", .tup ((rows.map fun r => r.map fun e => e / com whole rows).map encT)), ("whole", .int (whole / com whole rows))]
def gridRes (RW : Addr) (rows : List (List Int)) (whole : Int) : Ri := match rows.findIdx? (badRow (wid rows) whole) with
  | some p => .exc RW "person" (.int p)
  | none => .ok (gridFs rows whole)
inductive R_grid (WH RW : Addr) : List D → Ri → Prop
  | go (rows : List (List Int)) (whole : Int) (h1 : 1 ≤ rows.length ∧ rows.length ≤ 12) (h2 : 1 ≤ wid rows ∧ wid rows ≤ 12) (hw : 1 ≤ whole) (hz : whole.natAbs < 2 ^ 1000) (hl : ∀ r ∈ rows, r.length ≤ 1000) : R_grid WH RW [.lst (rows.map encR), .int whole] (gridRes RW rows whole)
  | whole (rows : List (List Int)) (whole : Int) (h1 : 1 ≤ rows.length ∧ rows.length ≤ 12) (h2 : 1 ≤ wid rows ∧ wid rows ≤ 12) (hw : whole < 1) (hz : whole.natAbs < 2 ^ 1000) (hl : ∀ r ∈ rows, r.length ≤ 1000) : R_grid WH RW [.lst (rows.map encR), .int whole] (.exc WH "whole" (.int whole))
theorem frz_rows (rows : List (List Int)) : frz (.lst (rows.map encR)) = .tup (rows.map encT) := frz_L fun r _ => frz_L fun e _ => rfl
theorem okF_rows (rows : List (List Int)) (h : rows.length ≤ 1000) (hl : ∀ r ∈ rows, r.length ≤ 1000) : okF 3 (.lst (rows.map encR)) = true := okF_L (by omega) fun r hr => okF_L (by have := hl r hr; omega) fun e _ => okF_int _ e
theorem gcI_in {c e w : Int} (h : 1 ≤ c ∧ c ≤ w) : 1 ≤ gcI c e ∧ gcI c e ≤ w := by
  unfold gcI
  have h1 : Nat.gcd c.natAbs e.natAbs ≤ c.natAbs := Nat.gcd_le_left _ (by omega)
  have h2 : 0 < Nat.gcd c.natAbs e.natAbs := Nat.gcd_pos_of_pos_left _ (by omega)
  omega
theorem gcI_row {w : Int} : ∀ (r : List Int) {c : Int}, 1 ≤ c ∧ c ≤ w → 1 ≤ r.foldl gcI c ∧ r.foldl gcI c ≤ w
  | [], _, h => h
  | e :: r, _, h => gcI_row r (gcI_in h)
theorem com_in {w : Int} : ∀ (rows : List (List Int)) {c : Int}, 1 ≤ c ∧ c ≤ w → 1 ≤ rows.foldl (fun c r => r.foldl gcI c) c ∧ rows.foldl (fun c r => r.foldl gcI c) c ≤ w
  | [], _, h => h
  | r :: rows, _, h => com_in rows (gcI_row r h)
theorem badRow_iff {t : Nat} {w : Int} {r : List Int} : badRow t w r = false ↔ r.length = t ∧ ∀ e ∈ r, 0 ≤ e ∧ e ≤ w := by
  unfold badRow
  simp
theorem res_ok {RW : Addr} {rows : List (List Int)} {whole : Int} (h : ∀ j, j < rows.length → badRow (wid rows) whole (rows.getD j []) = false) : gridRes RW rows whole = .ok (gridFs rows whole) := by
  unfold gridRes
  have e : rows.findIdx? (badRow (wid rows) whole) = none := by
    rw [List.findIdx?_eq_none_iff]
    intro r hr
    obtain ⟨j, hj, rfl⟩ := List.mem_iff_getElem.mp hr
    have := h j hj
    rw [List.getD_eq_getElem?_getD, List.getElem?_eq_getElem hj] at this
    exact this
  rw [e]
theorem res_bad {RW : Addr} {rows : List (List Int)} {whole : Int} {i : Nat} (hi : i < rows.length) (h : ∀ j, j < i → badRow (wid rows) whole (rows.getD j []) = false) (hb : badRow (wid rows) whole (rows.getD i []) = true) : gridRes RW rows whole = .exc RW "person" (.int i) := by
  unfold gridRes
  have e : rows.findIdx? (badRow (wid rows) whole) = some i := by
    rw [List.findIdx?_eq_some_iff_getElem]
    refine ⟨hi, ?_, fun j hj => ?_⟩
    · rw [List.getD_eq_getElem?_getD, List.getElem?_eq_getElem hi] at hb
      exact hb
    · have := h j hj
      rw [List.getD_eq_getElem?_getD, List.getElem?_eq_getElem (by omega)] at this
      have t : badRow (wid rows) whole rows[j] = false := this
      rw [t]
      exact Bool.false_ne_true
  rw [e]
theorem com_take {whole : Int} {rows : List (List Int)} {i : Nat} (hi : i < rows.length) : com whole (rows.take (i + 1)) = (rows.getD i []).foldl gcI (com whole (rows.take i)) := by
  unfold com
  rw [List.take_succ, List.getElem?_eq_getElem hi, List.foldl_append, List.getD_eq_getElem?_getD, List.getElem?_eq_getElem hi]
  rfl
theorem nat60 (i : Nat) (h : i ≤ 1000) : ((i : Int)).natAbs.log2 < 1920 := natlg i (by omega)
theorem nab200 {c w : Int} (h : 1 ≤ c ∧ c ≤ w) (hz : w.natAbs < 2 ^ 1000) : c.natAbs < 2 ^ 1000 := by omega
theorem grid_ok {f C : Addr} {fd : FuncData} (T : Tx K mg) (FD : FunD K "__init__" "Grid.__init__" (defArgs s_Grid___init__) (defBody s_Grid___init__) (defScope s_Grid___init__) [] [] f fd) (G : GridF K C) :
    FnOk pw w K mg base (L2.CX pw w) 5 f fd ["self", "rows", "whole"] (spI K C (R_grid (He.ga K "BadWhole") (He.ga K "BadRow"))) := by
  obtain ⟨fd_frozen, F_frozen, b_frozen, k_frozen⟩ := ok_frozen (w := w) (base := base) T
  obtain ⟨fd_check_size, F_check_size, b_check_size, k_check_size⟩ := ok_check_size (w := w) (base := base) T
  obtain ⟨fdX_BadWhole, X_BadWhole, bX_BadWhole⟩ := ok_BadWhole___init__ (w := w) (base := base) T
  obtain ⟨fdX_BadRow, X_BadRow, bX_BadRow⟩ := ok_BadRow___init__ (w := w) (base := base) T
  have sc := sc_Grid___init__
  refine fnI FD sc (fun ds r h => by cases h <;> rfl) fun cdv A outer s H E hr ds r hR => ⟨_, (pss_cons (ps_set (i := 1) sc.nd rfl (by first | exact Or.inl rfl | exact Or.inr rfl) (pe_callSD F_frozen (hr.mono (by decide)) rfl (g_frozen T) k_frozen b_frozen .nil (fun σ => passAt (takes_of rfl rfl rfl rfl) σ) (pa_cons (pv 1) pa_nil))) (pss_cons (ps_fldK (K := K) rfl (pv 0) (pe_callB (call_len_seqK (K := K) rfl) rfl (f_len T) PySem.boot_len (pa_cons (pv 1) pa_nil)) rfl) (pss_cons (ps_expr (pe_callSD F_check_size (hr.mono (by decide)) rfl (g_check_size T) k_check_size b_check_size .nil (fun σ => passAt (takes_of rfl rfl rfl rfl) σ) (pa_cons (pe_fldK (K := K) rfl (pv 0) rfl) pa_nil))) (pss_cons (ps_fldK (K := K) rfl (pv 0) (pe_callB (call_len_seqK (K := K) rfl) rfl (f_len T) PySem.boot_len (pa_cons (pe_ix (ix_tupK (K := K) rfl) (pv 1) pe_int (fun _ _ => rfl)) pa_nil)) rfl) (pss_cons (ps_expr (pe_callSD F_check_size (hr.mono (by decide)) rfl (g_check_size T) k_check_size b_check_size .nil (fun σ => passAt (takes_of rfl rfl rfl rfl) σ) (pa_cons (pe_fldK (K := K) rfl (pv 0) rfl) pa_nil))) (pss_cons (ps_if (pt_cmpR op_lt (pv 2) pe_int (nomark _)) (pss_one (ps_raise rfl (takes_of rfl rfl rfl rfl) (pmk_oex (fx_oex_BadWhole T) (fx_init_BadWhole T).1 (fx_init_BadWhole T).2 X_BadWhole (hr.mono (by decide)) bX_BadWhole .nil passN rfl (g_BadWhole T) (pa_cons (pv 2) pa_nil)))) pss_nil) (pss_cons (ps_set (i := 3) sc.nd rfl (by first | exact Or.inl rfl | exact Or.inr rfl) (pv 2)) (pss_cons (ps_for (passes_of rfl) rfl (pi_range1 rfl (f_range T) (pa_cons (pe_fldK (K := K) rfl (pv 0) rfl) pa_nil)) (pg_name (i := 4) sc.nd rfl (by first | exact Or.inl rfl | exact Or.inr rfl)) (pss_cons (ps_if (pt_cmpR op_ne (pe_callB (call_len_seqK (K := K) rfl) rfl (f_len T) PySem.boot_len (pa_cons (pe_ix (ix_tupK (K := K) rfl) (pv 1) (pv 4) (fun _ _ => rfl)) pa_nil)) (pe_fldK (K := K) rfl (pv 0) rfl) (nomark _)) (pss_one (ps_raise rfl (takes_of rfl rfl rfl rfl) (pmk_oex (fx_oex_BadRow T) (fx_init_BadRow T).1 (fx_init_BadRow T).2 X_BadRow (hr.mono (by decide)) bX_BadRow .nil passN rfl (g_BadRow T) (pa_cons (pv 4) pa_nil)))) pss_nil) (pss_one (ps_for (passes_of rfl) rfl (pi_tupK (K := K) rfl (pe_ix (ix_tupK (K := K) rfl) (pv 1) (pv 4) (fun _ _ => rfl))) (pg_name (i := 5) sc.nd rfl (by first | exact Or.inl rfl | exact Or.inr rfl)) (pss_cons (ps_if (pt_not (pt_chain op_le op_le pe_int (pv 5) (pv 2))) (pss_one (ps_raise rfl (takes_of rfl rfl rfl rfl) (pmk_oex (fx_oex_BadRow T) (fx_init_BadRow T).1 (fx_init_BadRow T).2 X_BadRow (hr.mono (by decide)) bX_BadRow .nil passN rfl (g_BadRow T) (pa_cons (pv 4) pa_nil)))) pss_nil) (pss_one (ps_set (i := 3) sc.nd rfl (by first | exact Or.inl rfl | exact Or.inr rfl) (pe_callBfun cr_gcd rfl (fx_gcd T) (pa_cons (pv 3) (pa_cons (pv 5) pa_nil)))))))))) (pss_cons (ps_fldK (K := K) rfl (pv 0) (pe_callTy (call_tuple_ofK (K := K) rfl) rfl (f_tuple T) (by decide +kernel) (pa_cons (pe_lc (own := [("row", 6)]) (g := gName 6) (tt := tYes) rfl sc.nd (pi_tupK (K := K) rfl (pv 1)) (blkOk_by (N := ["self", "rows", "whole", "common", "person", "entry", "row"]) (sc := defScope s_Grid___init__) (by decide +kernel)) (fun _ _ _ _ _ => (pg_name (i := 6) sc.nd rfl (by first | exact Or.inl rfl | exact Or.inr rfl))) (fun _ _ _ _ _ => pts_nil) (fun _ _ _ _ _ => (pe_callTy (call_tuple_ofK (K := K) rfl) rfl (f_tuple T) (by decide +kernel) (pa_cons (pe_lc (own := [("entry", 5)]) (g := gName 5) (tt := tYes) rfl sc.nd (pi_tupK (K := K) rfl (pv 6)) (blkOk_by (N := ["self", "rows", "whole", "common", "person", "entry", "row"]) (by kernel_rfl)) (fun _ _ _ _ _ => (pg_name (i := 5) sc.nd rfl (by first | exact Or.inl rfl | exact Or.inr rfl))) (fun _ _ _ _ _ => pts_nil) (fun _ _ _ _ _ => (pe_op op_fdivW (pv 5) (pv 3)))) pa_nil)))) pa_nil)) rfl) (pss_one (ps_fldK (K := K) rfl (pv 0) (pe_op op_fdivW (pv 2) (pv 3)) rfl))))))))))), ?_⟩
  intro F x xw
  cases hR with
  | go rows whole h1 h2 hw hz hl =>
    refine q_seq (s_set ((ev_callX (eva_cons (ev_var rfl) eva_nil) (.mk 3 _ (okF_rows rows (by omega) hl))).to (frz_rows rows)) ?_)
    refine q_seq (s_fld rfl ((ev_lenT (ev_var rfl)).to (d' := .int (rows.length : Int)) (by rw [List.length_map])) G.cls G.people (Nat.le_of_ble_eq_true rfl) ?_)
    refine q_seq (s_drop (ev_callX (eva_cons (ev_fldO rfl G.cls G.people rfl) eva_nil) (R_size.ok _ (by omega))) ?_)
    refine q_seq (s_fld rfl ((ev_lenT (ev_ixT (ev_var rfl) ev_int (atI_mapD encT [] (by decide) (by omega)))).to (d' := .int (wid rows : Int)) (by rw [List.length_map]; rfl)) G.cls G.things (Nat.le_of_ble_eq_true rfl) ?_)
    refine q_seq (s_drop (ev_callX (eva_cons (ev_fldO rfl G.cls G.things rfl) eva_nil) (R_size.ok _ (by omega))) ?_)
    refine q_seq (s_if (evt_test (ev_ob (ev_var rfl) ev_int)) (fun hb => ?_) (fun hb => ?_))
    · exfalso
      simp at hb
      omega
    refine s_next ?_
    refine q_seq (s_set (ev_var rfl) ?_)
    have hcom : ∀ i, 1 ≤ com whole (rows.take i) ∧ com whole (rows.take i) ≤ whole := fun i => com_in _ ⟨hw, Int.le_refl _⟩
    refine q_seq (s_for (src_rng1 (eva_cons (ev_fldO rfl G.cls G.people rfl) eva_nil) (by omega)) (fun i δ => ∃ s4 s5 s6, δ = [.ow (some x) (.ins C [(("people" : Str), .int rows.length), (("things" : Str), .int (wid rows))]), .d (.tup (rows.map encT)), .d (.int whole), .d (.int (com whole (rows.take i))), s4, s5, s6] ∧ ∀ j, j < i → badRow (wid rows) whole (rows.getD j []) = false)
      ⟨.un, .un, .un, rfl, fun j hj => absurd hj (Nat.not_lt_zero j)⟩ (fun i δ2 hi hw2 => gd_name ?_) (fun δ2 hw2 => ?_))
    · obtain ⟨s4, s5, s6, rfl, hgood⟩ := hw2
      have hi' : i < rows.length := by simpa using hi
      have hrl := hl (rows.getD i []) (by rw [List.getD_eq_getElem?_getD, List.getElem?_eq_getElem hi']; exact List.getElem_mem hi')
      refine q_seq (s_if (evt_test (ev_nei ((ev_lenT (ev_ixT (ev_var rfl) (ev_var rfl) (atI_mapD encT [] (by omega) (by omega)))).to (d' := .int ((rows.getD i []).length : Int)) (by rw [List.length_map]; rfl)) (ev_fldO rfl G.cls G.things rfl))) (fun hb => ?_) (fun hb => ?_))
      · refine s_raise (eva_cons (ev_var rfl) eva_nil) (fun _ _ _ hv => intv hv (nat60 i (by omega))) xw (res_bad hi' hgood ?_)
        have hne : (rows.getD i []).length ≠ wid rows := by
          have h' : ¬ ((rows.getD i []).length : Int) = (wid rows : Int) := by simpa using hb
          omega
        unfold badRow
        rw [decide_eq_true hne]
        rfl
      · have hlen : (rows.getD i []).length = wid rows := by
          have : ((rows.getD i []).length : Int) = (wid rows : Int) := by simpa using hb
          omega
        refine s_next ?_
        refine s_forA (l := rows.getD i []) D.int (src_tup (ev_ixT (ev_var rfl) (ev_var rfl) (atI_mapD encT [] (by omega) (by omega)))) (fun j δ => ∃ s5 s6, δ = [.ow (some x) (.ins C [(("people" : Str), .int rows.length), (("things" : Str), .int (wid rows))]), .d (.tup (rows.map encT)), .d (.int whole), .d (.int (((rows.getD i []).take j).foldl gcI (com whole (rows.take i)))), .d (.int i), s5, s6] ∧ ∀ e ∈ (rows.getD i []).take j, 0 ≤ e ∧ e ≤ whole)
          ⟨s5, s6, rfl, fun e he => by simp at he⟩ (fun j e δ3 hj hw3 => gd_name ?_) (fun δ3 hw3 => ?_)
        · obtain ⟨s5, s6, rfl, hents⟩ := hw3
          have hmem : e ∈ rows.getD i [] := List.mem_of_getElem? hj
          refine q_seq (s_if (evt_not (evt_test (ev_chainI ev_int (ev_var rfl) (fun _ => (ev_var rfl))))) (fun hb2 => ?_) (fun hb2 => ?_))
          · refine s_raise (eva_cons (ev_var rfl) eva_nil) (fun _ _ _ hv => intv hv (nat60 i (by omega))) xw (res_bad hi' hgood ?_)
            unfold badRow
            rw [Bool.or_eq_true]
            exact .inr (List.any_eq_true.mpr ⟨e, hmem, hb2⟩)
          · have hin : 0 ≤ e ∧ e ≤ whole := by simpa using hb2
            refine s_next (s_set (ev_gcd (ev_var rfl) (ev_var rfl)) ⟨.d (.int e), s6, ?_, fun y hy => ?_⟩)
            · rw [List.take_succ, hj, List.foldl_append]
              rfl
            · rw [List.take_succ, hj] at hy
              rcases List.mem_append.mp hy with hy | hy
              · exact hents y hy
              · have : y = e := by simpa using hy
                rw [this]
                exact hin
        · obtain ⟨s5, s6, rfl, hents⟩ := hw3
          refine ⟨.d (.int i), s5, s6, ?_, fun j hj => ?_⟩
          · rw [com_take hi', List.take_length]
          · rcases Nat.lt_succ_iff_lt_or_eq.mp hj with hj | rfl
            · exact hgood j hj
            · rw [List.take_length] at hents
              exact badRow_iff.mpr ⟨hlen, hents⟩
    · obtain ⟨s4, s5, s6, rfl, hgood⟩ := hw2
      have hc := hcom rows.length
      rw [List.take_length] at hc
      have et : com whole (rows.take ((rows.length : Int)).toNat) = com whole rows := by
        rw [Int.toNat_natCast, List.take_length]
      rw [et]
      have hcz := nab200 hc hz
      refine q_seq (s_fld rfl (ev_tofL (ev_l (Evl.to (evl_mapA encT (fun r => encT (r.map fun e => e / com whole rows)) (src_tup (ev_var rfl)) (by omega) (by decide) (fun r hr => gd_name ⟨evt_yes, ev_tofL (ev_l (Evl.to (evl_mapA D.int (fun e => .int (e / com whole rows)) (src_tup (ev_var rfl)) (by have := hl r hr; omega) (by decide) (fun e he => gd_name ⟨evt_yes, ev_ci (ev_var rfl) (ev_var rfl) (wide_div (by omega) hcz (by decide) (by decide))⟩)) (by rw [List.map_map]; rfl)))⟩)) (ys := (rows.map fun r => r.map fun e => e / com whole rows).map encT) (by rw [List.map_map]; rfl)))) G.cls G.rows (Nat.le_of_ble_eq_true rfl) ?_)
      refine s_fld rfl (ev_ci (ev_var rfl) (ev_var rfl) (wide_div (by omega) hcz (by decide) (by decide))) G.cls G.whole (Nat.le_of_ble_eq_true rfl) ?_
      refine ⟨gridFs rows whole, rfl, res_ok fun j hj => hgood j ?_⟩
      rw [Int.toNat_natCast]
      exact hj
  | whole rows whole h1 h2 hw hz hl =>
    refine q_seq (s_set ((ev_callX (eva_cons (ev_var rfl) eva_nil) (.mk 3 _ (okF_rows rows (by omega) hl))).to (frz_rows rows)) ?_)
    refine q_seq (s_fld rfl ((ev_lenT (ev_var rfl)).to (d' := .int (rows.length : Int)) (by rw [List.length_map])) G.cls G.people (Nat.le_of_ble_eq_true rfl) ?_)
    refine q_seq (s_drop (ev_callX (eva_cons (ev_fldO rfl G.cls G.people rfl) eva_nil) (R_size.ok _ (by omega))) ?_)
    refine q_seq (s_fld rfl ((ev_lenT (ev_ixT (ev_var rfl) ev_int (atI_mapD encT [] (by decide) (by omega)))).to (d' := .int (wid rows : Int)) (by rw [List.length_map]; rfl)) G.cls G.things (Nat.le_of_ble_eq_true rfl) ?_)
    refine q_seq (s_drop (ev_callX (eva_cons (ev_fldO rfl G.cls G.things rfl) eva_nil) (R_size.ok _ (by omega))) ?_)
    refine q_seq (s_if (evt_test (ev_ob (ev_var rfl) ev_int)) (fun hb => ?_) (fun hb => ?_))
    · exact s_raise (eva_cons (ev_var rfl) eva_nil) (fun _ _ _ hv => intv hv (lgK hz)) xw rfl
    · exfalso
      simp at hb
      omega
/-! ### Table -/
def redRows (rows : List (List Int)) (whole : Int) : List (List Int) := rows.map fun r => r.map fun e => e / com whole rows
def tabRes (RW : Addr) (rows : List (List Int)) (whole : Int) : Ri := match rows.findIdx? (badRow (wid rows) whole) with
  | some p => .exc RW "person" (.int p)
  | none => match (redRows rows whole).findIdx? (fun r => decide (r.sum ≠ whole / com whole rows)) with
    | some p => .exc RW "person" (.int p)
    | none => .ok (gridFs rows whole)
inductive R_table (WH RW : Addr) : List D → Ri → Prop
  | go (rows : List (List Int)) (whole : Int) (h1 : 1 ≤ rows.length ∧ rows.length ≤ 12) (h2 : 1 ≤ wid rows ∧ wid rows ≤ 12) (hw : 1 ≤ whole) (hz : whole.natAbs < 2 ^ 1000) (hl : ∀ r ∈ rows, r.length ≤ 1000) : R_table WH RW [.lst (rows.map encR), .int whole] (tabRes RW rows whole)
  | whole (rows : List (List Int)) (whole : Int) (h1 : 1 ≤ rows.length ∧ rows.length ≤ 12) (h2 : 1 ≤ wid rows ∧ wid rows ≤ 12) (hw : whole < 1) (hz : whole.natAbs < 2 ^ 1000) (hl : ∀ r ∈ rows, r.length ≤ 1000) : R_table WH RW [.lst (rows.map encR), .int whole] (.exc WH "whole" (.int whole))
theorem gfT (T : Tx K mg) : GridF K (He.ga K "Table") := ⟨cls_Table T, noat_Table_people T, noat_Table_things T, noat_Table_rows T, noat_Table_whole T⟩
theorem gfG (T : Tx K mg) : GridF K (He.ga K "Grid") := ⟨cls_Grid T, noat_Grid_people T, noat_Grid_things T, noat_Grid_rows T, noat_Grid_whole T⟩
theorem mkI_Grid (T : Tx K mg) : ∃ fd, FnOk pw w K mg base (L2.CX pw w) 5 (He.ma K (He.ga K "Grid") "__init__") fd ["self", "rows", "whole"] (spI K (He.ga K "Grid") (R_grid (He.ga K "BadWhole") (He.ga K "BadRow"))) ∧ Binds K fd ["self", "rows", "whole"] [] := by
  obtain ⟨fd, FD⟩ := T.c.def_ 28 (d := d_Grid___init__) rfl
  exact ⟨fd, grid_ok T FD (gfG T), FD.bindsN fun _ _ _ _ _ _ us hl => match us, hl with | [_, _, _], _ => rfl⟩
theorem mkI_Table (T : Tx K mg) : ∃ fd, FnOk pw w K mg base (L2.CX pw w) 6 (He.ma K (He.ga K "Table") "__init__") fd ["self", "rows", "whole"] (spI K (He.ga K "Table") (R_table (He.ga K "BadWhole") (He.ga K "BadRow"))) ∧ Binds K fd ["self", "rows", "whole"] [] := by
  obtain ⟨fdG, FDG⟩ := T.c.def_ 28 (d := d_Grid___init__) rfl
  have FG := grid_ok (w := w) (base := base) T FDG (gfT T)
  have bG : Binds K fdG ["self", "rows", "whole"] [] := FDG.bindsN fun _ _ _ _ _ _ us hl => match us, hl with | [_, _, _], _ => rfl
  obtain ⟨fdX_BadRow, X_BadRow, bX_BadRow⟩ := ok_BadRow___init__ (w := w) (base := base) T
  obtain ⟨fd, SDf⟩ := T.c.sup 7 (d := d_Table___init__) rfl
  have sc := sc_Table___init__
  refine ⟨fd, fnSI SDf (nm := "self") sc rfl rfl rfl rfl rfl (f_super T) (by rfl) (fx_opq T) (fun ds r h => by cases h <;> rfl) (fun cc cdv A outer s H E S hr ds r hR => ⟨_, Sy.psa_super (i := 0) S rfl (by first | exact Or.inl rfl | exact Or.inr (Or.inl rfl)) (fx_mro_Table_Table T) (fx_sup_Table_Table T).1 (fx_sup_Table_Table T).2.1 (fx_sup_Table_Table T).2.2 FG (hr.mono (by decide)) bG .nil (passes_call (takes_of rfl rfl rfl rfl) (fun _ _ _ _ h => h)) (pa_cons (pv 1) (pa_cons (pv 2) pa_nil)) (Sy.psa_of (pss_one (ps_for (passes_of rfl) rfl (pi_range1 rfl (f_range T) (pa_cons (pe_fldK (K := K) rfl (pv 0) rfl) pa_nil)) (pg_name (i := 3) sc.nd rfl (by first | exact Or.inl rfl | exact Or.inr rfl)) (pss_one (ps_if (pt_cmpR op_ne (pe_callB (cr_sumTK (K := K) rfl rfl) rfl (f_sum T) (by decide +kernel) (pa_cons (pe_ix (ix_tupK (K := K) rfl) (pe_fldK (K := K) rfl (pv 0) rfl) (pv 3) (fun _ _ => rfl)) pa_nil)) (pe_fldK (K := K) rfl (pv 0) rfl) (nomark _)) (pss_one (ps_raise rfl (takes_of rfl rfl rfl rfl) (pmk_oex (fx_oex_BadRow T) (fx_init_BadRow T).1 (fx_init_BadRow T).2 X_BadRow (hr.mono (by decide)) bX_BadRow .nil passN rfl (g_BadRow T) (pa_cons (pv 3) pa_nil)))) pss_nil))))), ?_⟩), SDf.bindsN fun _ _ _ _ _ _ _ us hl => match us, hl with | [_, _, _], _ => rfl⟩
  intro F x xw
  cases hR with
  | go rows whole h1 h2 hw hz hl =>
    have hg := R_grid.go (WH := He.ga K "BadWhole") (RW := He.ga K "BadRow") rows whole h1 h2 hw hz hl
    cases e : rows.findIdx? (badRow (wid rows) whole) with
    | some p =>
      have e1 : gridRes (He.ga K "BadRow") rows whole = .exc (He.ga K "BadRow") "person" (.int p) := by
        unfold gridRes
        rw [e]
      rw [e1] at hg
      refine q_seq (sx_super rfl (eva_cons (ev_var rfl) (eva_cons (ev_var rfl) eva_nil)) hg xw ?_)
      unfold tabRes
      rw [e]
    | none =>
      have e1 : gridRes (He.ga K "BadRow") rows whole = .ok (gridFs rows whole) := by
        unfold gridRes
        rw [e]
      rw [e1] at hg
      refine q_seq (s_super rfl (eva_cons (ev_var rfl) (eva_cons (ev_var rfl) eva_nil)) hg ?_)
      have hrl : (redRows rows whole).length = rows.length := List.length_map ..
      have hnone : (∀ j, j < rows.length → ((redRows rows whole).getD j []).sum = whole / com whole rows) → tabRes (He.ga K "BadRow") rows whole = .ok (gridFs rows whole) := fun h => by
        unfold tabRes
        rw [e]
        have e2 : (redRows rows whole).findIdx? (fun r => decide (r.sum ≠ whole / com whole rows)) = none := by
          rw [List.findIdx?_eq_none_iff]
          intro r hr
          obtain ⟨j, hj, rfl⟩ := List.mem_iff_getElem.mp hr
          have := h j (by omega)
          rw [List.getD_eq_getElem?_getD, List.getElem?_eq_getElem hj] at this
          exact decide_eq_false (fun z => z this)
        simp only [e2]
      have hsome : ∀ i, i < rows.length → (∀ j, j < i → ((redRows rows whole).getD j []).sum = whole / com whole rows) → ((redRows rows whole).getD i []).sum ≠ whole / com whole rows → tabRes (He.ga K "BadRow") rows whole = .exc (He.ga K "BadRow") "person" (.int i) := fun i hi h hb => by
        unfold tabRes
        rw [e]
        have e2 : (redRows rows whole).findIdx? (fun r => decide (r.sum ≠ whole / com whole rows)) = some i := by
          rw [List.findIdx?_eq_some_iff_getElem]
          refine ⟨by omega, ?_, fun j hj => ?_⟩
          · rw [List.getD_eq_getElem?_getD, List.getElem?_eq_getElem (by omega)] at hb
            exact decide_eq_true hb
          · have := h j hj
            rw [List.getD_eq_getElem?_getD, List.getElem?_eq_getElem (by omega)] at this
            intro z
            exact of_decide_eq_true z this
        simp only [e2]
      refine s_for (src_rng1 (eva_cons (ev_fldO rfl (cls_Table T) (noat_Table_people T) rfl) eva_nil) (by omega)) (fun i δ => ∃ sk, δ = [.ow (some x) (.ins (He.ga K "Table") (gridFs rows whole)), .d (.lst (rows.map encR)), .d (.int whole), sk] ∧ ∀ j, j < i → ((redRows rows whole).getD j []).sum = whole / com whole rows)
        ⟨.un, rfl, fun j hj => absurd hj (Nat.not_lt_zero j)⟩ (fun i δ2 hi hw2 => gd_name ?_) (fun δ2 hw2 => ?_)
      · obtain ⟨sk, rfl, hgood⟩ := hw2
        have hi' : i < rows.length := by simpa using hi
        refine s_if (evt_test (ev_nei (ev_sumT (ns := (redRows rows whole).getD i []) (ev_ixT (ev_fldO rfl (cls_Table T) (noat_Table_rows T) rfl) (ev_var rfl) (atI_mapD (l := redRows rows whole) encT [] (by omega) (by rw [hrl]; omega)))) (ev_fldO rfl (cls_Table T) (noat_Table_whole T) rfl))) (fun hb => ?_) (fun hb => ?_)
        · have hb' : ((redRows rows whole).getD i []).sum ≠ whole / com whole rows := by
            intro z
            rw [z] at hb
            simp at hb
          exact s_raise (eva_cons (ev_var rfl) eva_nil) (fun _ _ _ hv => intv hv (nat60 i (by omega))) xw (hsome i hi' hgood hb')
        · refine s_next ⟨.d (.int i), rfl, fun j hj => ?_⟩
          rcases Nat.lt_succ_iff_lt_or_eq.mp hj with hj | rfl
          · exact hgood j hj
          · refine Decidable.byContradiction fun z => ?_
            rw [decide_eq_false z] at hb
            exact absurd hb (by decide)
      · obtain ⟨sk, rfl, hgood⟩ := hw2
        refine ⟨gridFs rows whole, rfl, hnone fun j hj => hgood j ?_⟩
        rw [Int.toNat_natCast]
        exact hj
  | whole rows whole h1 h2 hw hz hl =>
    exact q_seq (sx_super rfl (eva_cons (ev_var rfl) (eva_cons (ev_var rfl) eva_nil)) (R_grid.whole rows whole h1 h2 hw hz hl) xw rfl)
end
end G17
set_option Elab.async false
set_option linter.all false
set_option maxRecDepth 100000
set_option maxHeartbeats 4000000
set_option exponentiation.threshold 2000
namespace G17
open PySem PySem.Spec PyProof.Rows L2 L3
section
variable {w : World} {K : PySem.W.Frag} {mg : Str → Option Value} {base : Heap}
/-! gcds -/
theorem gcI_dvd_l (c e : Int) : gcI c e ∣ c := by
  unfold gcI
  exact Int.ofNat_dvd_left.mpr (Nat.gcd_dvd_left _ _)
theorem gcI_dvd_r (c e : Int) : gcI c e ∣ e := by
  unfold gcI
  exact Int.ofNat_dvd_left.mpr (Nat.gcd_dvd_right _ _)
theorem foldg_dvd : ∀ (r : List Int) (c : Int), r.foldl gcI c ∣ c ∧ ∀ e ∈ r, r.foldl gcI c ∣ e
  | [], c => ⟨Int.dvd_refl _, fun e he => by cases he⟩
  | x :: r, c => by
    obtain ⟨h1, h2⟩ := foldg_dvd r (gcI c x)
    refine ⟨Int.dvd_trans h1 (gcI_dvd_l c x), fun e he => ?_⟩
    rcases List.mem_cons.mp he with rfl | he
    · exact Int.dvd_trans h1 (gcI_dvd_r c _)
    · exact h2 e he
theorem com_dvd : ∀ (rows : List (List Int)) (w : Int), com w rows ∣ w ∧ ∀ r ∈ rows, ∀ e ∈ r, com w rows ∣ e
  | [], w => ⟨Int.dvd_refl _, fun r hr => by cases hr⟩
  | x :: rows, w => by
    obtain ⟨h1, h2⟩ := com_dvd rows (x.foldl gcI w)
    obtain ⟨h3, h4⟩ := foldg_dvd x w
    refine ⟨Int.dvd_trans h1 h3, fun r hr e he => ?_⟩
    rcases List.mem_cons.mp hr with rfl | hr
    · exact Int.dvd_trans h1 (h4 e he)
    · exact h2 r hr e he
theorem gcI_mul {f : Nat} (c e : Int) : gcI (c * f) (e * f) = gcI c e * f := by
  unfold gcI
  rw [Int.natAbs_mul, Int.natAbs_mul, Int.natAbs_natCast, Nat.gcd_mul_right]
  push_cast
  rfl
theorem foldg_mul {f : Nat} : ∀ (r : List Int) (c : Int), (r.map fun e => e * (f : Int)).foldl gcI (c * f) = r.foldl gcI c * f
  | [], _ => rfl
  | e :: r, c => by
    show (r.map fun e => e * (f : Int)).foldl gcI (gcI (c * f) (e * f)) = _
    rw [gcI_mul, foldg_mul r]
    rfl
theorem com_mul {f : Nat} : ∀ (rows : List (List Int)) (w : Int), com (w * f) (rows.map fun r => r.map fun e => e * (f : Int)) = com w rows * f
  | [], _ => rfl
  | r :: rows, w => by
    show com ((r.map fun e => e * (f : Int)).foldl gcI (w * f)) (rows.map fun r => r.map fun e => e * (f : Int)) = _
    rw [foldg_mul, com_mul rows]
    rfl
theorem sum_div {c : Int} (hc : 0 < c) : ∀ (r : List Int), (∀ e ∈ r, c ∣ e) → (r.map fun e => e / c).sum * c = r.sum
  | [], _ => by simp
  | e :: r, h => by
    have ih := sum_div hc r fun x hx => h x (List.mem_cons_of_mem _ hx)
    have h1 := Int.ediv_mul_cancel (h e List.mem_cons_self)
    simp only [List.map_cons, List.sum_cons, Int.add_mul, ih, h1]
theorem sum_div_eq {c w : Int} (hc : 0 < c) {r : List Int} (h : ∀ e ∈ r, c ∣ e) (hw : c ∣ w) : (r.map fun e => e / c).sum = w / c ↔ r.sum = w := by
  have h1 := sum_div hc r h
  have h2 := Int.ediv_mul_cancel hw
  constructor
  · intro e
    rw [← h1, e, h2]
  · intro e
    have : (r.map fun e => e / c).sum * c = w / c * c := by rw [h1, h2, e]
    exact Int.eq_of_mul_eq_mul_right (by omega) this
/-! Table, Grid of good rows and of a spoilt one -/
theorem com_pos {w : Int} (hw : 1 ≤ w) (rows : List (List Int)) : 0 < com w rows := by
  have := com_in (w := w) rows ⟨hw, Int.le_refl _⟩
  unfold com
  omega
theorem find_none {α : Type} {p : α → Bool} {l : List α} (h : ∀ a ∈ l, p a = false) : l.findIdx? p = none := List.findIdx?_eq_none_iff.mpr h
theorem find_one {α : Type} {p : α → Bool} {l : List α} {i : Nat} {a : α} (hi : l[i]? = some a) (ha : p a = true) (h : ∀ j b, j < i → l[j]? = some b → p b = false) : l.findIdx? p = some i := by
  obtain ⟨h1, h2⟩ := List.getElem?_eq_some_iff.mp hi
  rw [List.findIdx?_eq_some_iff_getElem]
  refine ⟨h1, by rw [h2]; exact ha, fun j hj => ?_⟩
  have := h j l[j] hj (List.getElem?_eq_getElem (by omega))
  rw [this]
  exact Bool.false_ne_true
theorem tab_good {RW : Addr} {rows : List (List Int)} {w : Int} (hw : 1 ≤ w) (h : ∀ r ∈ rows, badRow (wid rows) w r = false) (hs : ∀ r ∈ rows, r.sum = w) : tabRes RW rows w = .ok (gridFs rows w) := by
  obtain ⟨d1, d2⟩ := com_dvd rows w
  unfold tabRes
  rw [find_none h]
  simp only
  rw [find_none (l := redRows rows w) (fun r hr => ?_)]
  unfold redRows at hr
  obtain ⟨r0, hr0, rfl⟩ := List.mem_map.mp hr
  exact decide_eq_false fun z => z ((sum_div_eq (com_pos hw rows) (d2 r0 hr0) d1).mpr (hs r0 hr0))
theorem grid_good {RW : Addr} {rows : List (List Int)} {w : Int} (h : ∀ r ∈ rows, badRow (wid rows) w r = false) : gridRes RW rows w = .ok (gridFs rows w) := by
  unfold gridRes
  rw [find_none h]
/-- a row that sums to one more -/
def objFs (rows : List (List Int)) (whole : Int) : List (Str × D) := [("people", .int rows.length), ("things", .int (wid rows)), ("rows", .tup (rows.map encT)), ("whole", .int whole)]
theorem cell_nn (ns : List Int) (k : Int) : 0 ≤ cell ns k := by
  unfold cell
  split
  · split <;> omega
  · omega
structure Low (P T : Nat) (W : Int) (L : List (List Int)) : Prop where
  len : L.length = P
  row : ∀ r ∈ L, r.length = T ∧ (∀ e ∈ r, 0 ≤ e ∧ e ≤ W) ∧ r.sum = W
theorem wid_of {t : Nat} {rows : List (List Int)} (h1 : 1 ≤ rows.length) (h : ∀ r ∈ rows, r.length = t) : wid rows = t := by
  unfold wid
  rw [List.getD_eq_getElem?_getD, List.getElem?_eq_getElem (by omega)]
  exact h _ (List.getElem_mem _)
theorem wid_map (g : Int → Int) (L : List (List Int)) : wid (L.map fun r => r.map g) = wid L := by
  unfold wid
  cases L with
  | nil => rfl
  | cons r L =>
    show (r.map g).length = r.length
    exact List.length_map ..
theorem getD_set {α : Type} {l : List α} {p : Nat} {a z : α} (h : p < l.length) : (l.set p a).getD p z = a := by
  rw [List.getD_eq_getElem?_getD, List.getElem?_set_self h]
  rfl
theorem Low.wd {P T : Nat} {W : Int} {L : List (List Int)} (h : Low P T W L) (hP : 1 ≤ P) : wid L = T := wid_of (by rw [h.len]; exact hP) fun r hr => (h.row r hr).1
theorem Low.good {P T : Nat} {W : Int} {L : List (List Int)} (h : Low P T W L) (hP : 1 ≤ P) : ∀ r ∈ L, badRow (wid L) W r = false := fun r hr => by
  rw [h.wd hP]
  exact badRow_iff.mpr ⟨(h.row r hr).1, (h.row r hr).2.1⟩
theorem sum_mul (f : Int) : ∀ r : List Int, (r.map fun e => e * f).sum = r.sum * f
  | [] => by simp
  | e :: r => by
    simp only [List.map_cons, List.sum_cons, Int.add_mul, sum_mul f r]
theorem low_mul {P T f : Nat} {W : Int} {L : List (List Int)} (h : Low P T W L) : Low P T (W * f) (L.map fun r => r.map fun e => e * (f : Int)) := by
  refine ⟨by rw [List.length_map]; exact h.len, fun r hr => ?_⟩
  obtain ⟨r0, hr0, rfl⟩ := List.mem_map.mp hr
  obtain ⟨h1, h2, h3⟩ := h.row r0 hr0
  refine ⟨by rw [List.length_map]; exact h1, fun e he => ?_, by rw [sum_mul, h3]⟩
  obtain ⟨e0, he0, rfl⟩ := List.mem_map.mp he
  obtain ⟨h4, h5⟩ := h2 e0 he0
  exact ⟨Int.mul_nonneg h4 (by omega), Int.mul_le_mul_of_nonneg_right h5 (by omega)⟩
theorem gridFs_mul {f : Nat} (hf : 1 ≤ f) (W : Int) (L : List (List Int)) : gridFs (L.map fun r => r.map fun e => e * (f : Int)) (W * f) = objFs (L.map fun r => r.map fun e => e / com W L) (W / com W L) := by
  have hd : ∀ a : Int, a * f / (com W L * f) = a / com W L := fun a => Int.mul_ediv_mul_of_pos_left _ _ (by omega)
  unfold gridFs objFs
  rw [com_mul, hd, wid_map, wid_map, List.length_map, List.length_map, List.map_map]
  congr 4
  apply congrArg D.tup
  rw [List.map_map, List.map_map]
  apply List.map_congr_left
  intro r _
  show D.tup (((r.map fun e => e * (f : Int)).map fun e => e / (com W L * f)).map D.int) = D.tup ((r.map fun e => e / com W L).map D.int)
  rw [List.map_map (l := r)]
  congr 2
  apply List.map_congr_left
  intro e _
  exact hd e
/-! ### check_fit -/
abbrev tbFs (p n : Nat) (rows : List (List Int)) (whole : Int) : List (Str × D) := [("people", .int p), ("things", .int n), ("rows", eT (eT D.int) rows), ("whole", .int whole)]
def col (rows : List (List Int)) (k : Nat) : Int := (rows.map fun r => r.getD k 0).sum
structure FitIn (n : Nat) (c : List Int) (rows : List (List Int)) (whole : Int) : Prop where
  cl : c.length = n
  rl : ∀ r ∈ rows, r.length = n
  rn : rows.length ≤ 1000
  nn : n ≤ 1000
  ca : ∀ e ∈ c, e.natAbs < 2 ^ 10
  wa : whole.natAbs < 2 ^ 1000
inductive R_fit (MF W TB : Addr) : List D → Rs → Prop
  | mis (p n tp tn : Nat) (o : List (List (List Int))) (c : List Int) (rows : List (List Int)) (whole : Int) (h : tp ≠ p ∨ tn ≠ n) : R_fit MF W TB [.obj W (wishFs p n o c), .obj TB (tbFs tp tn rows whole)] (.exc MF "thing" .non)
  | bad (p n : Nat) (o : List (List (List Int))) (c : List Int) (rows : List (List Int)) (whole : Int) (k : Nat) (hk : k < n) (h : c.getD k 0 * whole < col rows k) (hg : ∀ j, j < k → ¬ c.getD j 0 * whole < col rows j) (F : FitIn n c rows whole) : R_fit MF W TB [.obj W (wishFs p n o c), .obj TB (tbFs p n rows whole)] (.exc MF "thing" (.int k))
  | ok (p n : Nat) (o : List (List (List Int))) (c : List Int) (rows : List (List Int)) (whole : Int) (hg : ∀ j, j < n → ¬ c.getD j 0 * whole < col rows j) (F : FitIn n c rows whole) : R_fit MF W TB [.obj W (wishFs p n o c), .obj TB (tbFs p n rows whole)] (.d .non)
theorem ok_check_fit (T : Tx K mg) : ∃ fd, FnOk pw w K mg base (L2.CX pw w) 3 (He.ga K "check_fit") fd ["wishes", "table"] (spR K (R_fit (He.ga K "Misfit") (He.ga K "Wishes") (He.ga K "Table"))) ∧ Binds K fd ["wishes", "table"] [] ∧ PySem.W.keepIn K (.ref (He.ga K "check_fit")) = true := by
  obtain ⟨fdX_Misfit, X_Misfit, bX_Misfit⟩ := ok_Misfit___init__ (w := w) (base := base) T
  obtain ⟨fdM_Table_column, M_Table_column, bM_Table_column, kM_Table_column⟩ := okM_Table_column (w := w) (base := base) T
  obtain ⟨fd, FD⟩ := T.c.def_ 6 (d := d_check_fit) rfl
  have sc := sc_check_fit
  refine ⟨fd, fnR FD sc (fun ds r h => by cases h <;> rfl) fun cdv A outer s H E hr ds r hR => ⟨_, (pss_cons (ps_if (PW.pt (pw_or (pt_cmpR op_ne (pe_fldK (K := K) rfl (pv 1) rfl) (pe_fldK (K := K) rfl (pv 0) rfl) (nomark _)) (pw_or1 (pt_cmpR op_ne (pe_fldK (K := K) rfl (pv 1) rfl) (pe_fldK (K := K) rfl (pv 0) rfl) (nomark _))))) (pss_one (ps_raise rfl (takes_of rfl rfl rfl rfl) (pmk_oex (fx_oex_Misfit T) (fx_init_Misfit T).1 (fx_init_Misfit T).2 X_Misfit (hr.mono (by decide)) bX_Misfit .nil passN rfl (g_Misfit T) (pa_cons pe_non pa_nil)))) pss_nil) (pss_one (ps_for (passes_of rfl) rfl (pi_range1 rfl (f_range T) (pa_cons (pe_fldK (K := K) rfl (pv 0) rfl) pa_nil)) (pg_name (i := 2) sc.nd rfl (by first | exact Or.inl rfl | exact Or.inr rfl)) (pss_one (ps_if (pt_cmpR op_gt (pe_methX (pv 1) (cls_Table T) (meth_Table_column T) M_Table_column (hr.mono (by decide)) bM_Table_column .nil (fun σ => passAt (takes_of rfl rfl rfl rfl) σ) (pa_cons (pv 2) pa_nil)) (pe_op op_mulW (pe_ix (ix_tupK (K := K) rfl) (pe_fldK (K := K) rfl (pv 0) rfl) (pv 2) (fun _ _ => rfl)) (pe_fldK (K := K) rfl (pv 1) rfl)) (nomark _)) (pss_one (ps_raise rfl (takes_of rfl rfl rfl rfl) (pmk_oex (fx_oex_Misfit T) (fx_init_Misfit T).1 (fx_init_Misfit T).2 X_Misfit (hr.mono (by decide)) bX_Misfit .nil passN rfl (g_Misfit T) (pa_cons (pv 2) pa_nil)))) pss_nil))))), ?_⟩, FD.bindsN fun _ _ _ _ _ _ us hl => match us, hl with | [_, _], _ => rfl, FD.kp⟩
  intro F xw
  cases hR with
  | mis p n tp tn o c rows whole h =>
    refine q_seq (s_if (evt_or (evt_test (ev_nei (ev_fld (ev_var rfl) (cls_Table T) (noat_Table_people T) rfl) (ev_fld (ev_var rfl) (cls_Wishes T) (noat_Wishes_people T) rfl))) (fun hc => (evt_test (ev_nei (ev_fld (ev_var rfl) (cls_Table T) (noat_Table_things T) rfl) (ev_fld (ev_var rfl) (cls_Wishes T) (noat_Wishes_things T) rfl))))) (fun hb => ?_) (fun hb => ?_))
    · refine s_raise (eva_cons ev_non eva_nil) ?_ xw ?_
      · exact fun _ _ _ hv => nonN hv
      · rfl
    · exfalso
      simp at hb
      omega
  | bad p n o c rows whole k hk h hg FI =>
    obtain ⟨cl, rl, rn, nn, ca, wa⟩ := FI
    refine q_seq (s_if (evt_or (evt_test (ev_nei (ev_fld (ev_var rfl) (cls_Table T) (noat_Table_people T) rfl) (ev_fld (ev_var rfl) (cls_Wishes T) (noat_Wishes_people T) rfl))) (fun hc => (evt_test (ev_nei (ev_fld (ev_var rfl) (cls_Table T) (noat_Table_things T) rfl) (ev_fld (ev_var rfl) (cls_Wishes T) (noat_Wishes_things T) rfl))))) (fun hb => ?_) (fun hb => ?_))
    · simp at hb
    refine s_next ?_
    refine s_forE (fun _ : Unit => [.d (.obj (He.ga K "Wishes") (wishFs p n o c)), .d (.obj (He.ga K "Table") (tbFs p n rows whole)), .un]) (fun i _ => i ≤ k) (src_rngN (eva_cons (ev_fld (ev_var rfl) (cls_Wishes T) (noat_Wishes_things T) rfl) eva_nil) (by first | omega | (simp; omega) | (simp at *; omega))) () (Nat.zero_le _) (hb := fun i _ hi hik => gd_name ?_) (hd := fun _ δ2 hik _ => absurd hk (Nat.not_lt_of_le hik))
    refine s_if (evt_test (ev_ob (ev_meth (ev_var rfl) rfl (eva_cons (ev_var rfl) eva_nil) (R_col.mk (tbFs p n rows whole) rows i rfl (fun r hr => by have := rl r hr; omega) rn)) (ev_ci (ev_ixTM (f := D.int) (z := 0) (ev_fld (ev_var rfl) (cls_Wishes T) (noat_Wishes_copies T) rfl) (ev_var rfl) (by omega) (by omega)) (ev_fld (ev_var rfl) (cls_Table T) (noat_Table_whole T) rfl) (wide_mul (getD_abs ca) wa (by decide) (by decide) (by decide))))) (fun hb => ?_) (fun hb => ?_)
    · have hb' : c.getD i 0 * whole < col rows i := of_decide_eq_true hb
      have e : i = k := by
        refine Decidable.byContradiction fun z => hg i (by omega) hb'
      subst e
      refine s_raise (eva_cons (ev_var rfl) eva_nil) ?_ xw ?_
      · exact fun _ _ _ hv => intN hv (natlg _ (by omega))
      · rfl
    · have hb' : ¬ c.getD i 0 * whole < col rows i := of_decide_eq_false hb
      refine s_next (at_mk () ?_)
      have : i ≠ k := fun z => hb' (z ▸ h)
      omega
  | ok p n o c rows whole hg FI =>
    obtain ⟨cl, rl, rn, nn, ca, wa⟩ := FI
    refine q_seq (s_if (evt_or (evt_test (ev_nei (ev_fld (ev_var rfl) (cls_Table T) (noat_Table_people T) rfl) (ev_fld (ev_var rfl) (cls_Wishes T) (noat_Wishes_people T) rfl))) (fun hc => (evt_test (ev_nei (ev_fld (ev_var rfl) (cls_Table T) (noat_Table_things T) rfl) (ev_fld (ev_var rfl) (cls_Wishes T) (noat_Wishes_things T) rfl))))) (fun hb => ?_) (fun hb => ?_))
    · simp at hb
    refine s_next ?_
    refine s_forE (fun _ : Unit => [.d (.obj (He.ga K "Wishes") (wishFs p n o c)), .d (.obj (He.ga K "Table") (tbFs p n rows whole)), .un]) (fun i _ => True) (src_rngN (eva_cons (ev_fld (ev_var rfl) (cls_Wishes T) (noat_Wishes_things T) rfl) eva_nil) (by first | omega | (simp; omega) | (simp at *; omega))) () trivial (hb := fun i _ hi hik => gd_name ?_) (hd := fun _ δ2 hik _ => rfl)
    refine s_if (evt_test (ev_ob (ev_meth (ev_var rfl) rfl (eva_cons (ev_var rfl) eva_nil) (R_col.mk (tbFs p n rows whole) rows i rfl (fun r hr => by have := rl r hr; omega) rn)) (ev_ci (ev_ixTM (f := D.int) (z := 0) (ev_fld (ev_var rfl) (cls_Wishes T) (noat_Wishes_copies T) rfl) (ev_var rfl) (by omega) (by omega)) (ev_fld (ev_var rfl) (cls_Table T) (noat_Table_whole T) rfl) (wide_mul (getD_abs ca) wa (by decide) (by decide) (by decide))))) (fun hb => ?_) (fun hb => ?_)
    · have hb' : c.getD i 0 * whole < col rows i := of_decide_eq_true hb
      exact absurd hb' (hg i (by omega))
    · exact s_next (at_mk () trivial)
/-! ### spare -/
def spareL (n : Nat) (c : List Int) (rows : List (List Int)) (whole : Int) : List Int := (List.range n).map fun k => c.getD k 0 * whole - col rows k
inductive R_spare (MF W TB : Addr) : List D → Rs → Prop
  | exc (a b : List (Str × D)) (x : D) (h : R_fit MF W TB [.obj W a, .obj TB b] (.exc MF "thing" x)) : R_spare MF W TB [.obj W a, .obj TB b] (.exc MF "thing" x)
  | ok (p n : Nat) (o : List (List (List Int))) (c : List Int) (rows : List (List Int)) (whole : Int) (hg : ∀ j, j < n → ¬ c.getD j 0 * whole < col rows j) (F : FitIn n c rows whole) : R_spare MF W TB [.obj W (wishFs p n o c), .obj TB (tbFs p n rows whole)] (.d (eT D.int (spareL n c rows whole)))
theorem ok_spare (T : Tx K mg) : ∃ fd, FnOk pw w K mg base (L2.CX pw w) 4 (He.ga K "spare") fd ["wishes", "table"] (spR K (R_spare (He.ga K "Misfit") (He.ga K "Wishes") (He.ga K "Table"))) ∧ Binds K fd ["wishes", "table"] [] ∧ PySem.W.keepIn K (.ref (He.ga K "spare")) = true := by
  obtain ⟨fd_check_fit, F_check_fit, b_check_fit, k_check_fit⟩ := ok_check_fit (w := w) (base := base) T
  obtain ⟨fdM_Table_column, M_Table_column, bM_Table_column, kM_Table_column⟩ := okM_Table_column (w := w) (base := base) T
  obtain ⟨fd, FD⟩ := T.c.def_ 7 (d := d_spare) rfl
  have sc := sc_spare
  refine ⟨fd, fnR FD sc (fun ds r h => by cases h <;> rfl) fun cdv A outer s H E hr ds r hR => ⟨_, (pss_cons (ps_expr (pe_callSD F_check_fit (hr.mono (by decide)) rfl (g_check_fit T) k_check_fit b_check_fit .nil (fun σ => passAt (takes_of rfl rfl rfl rfl) σ) (pa_cons (pv 0) (pa_cons (pv 1) pa_nil)))) (pss_one (ps_ret (pe_callTy (call_tuple_ofK (K := K) rfl) rfl (f_tuple T) (by decide +kernel) (pa_cons (pe_lc (own := [("thing", 2)]) (g := gName 2) (tt := tYes) rfl sc.nd (pi_range1 rfl (f_range T) (pa_cons (pe_fldK (K := K) rfl (pv 0) rfl) pa_nil)) (blkOk_by (N := ["wishes", "table", "thing"]) (sc := defScope s_spare) (by decide +kernel)) (fun _ _ _ _ _ => (pg_name (i := 2) sc.nd rfl (by first | exact Or.inl rfl | exact Or.inr rfl))) (fun _ _ _ _ _ => pts_nil) (fun _ _ _ _ _ => (pe_op op_sub (pe_op op_mulW (pe_ix (ix_tupK (K := K) rfl) (pe_fldK (K := K) rfl (pv 0) rfl) (pv 2) (fun _ _ => rfl)) (pe_fldK (K := K) rfl (pv 1) rfl)) (pe_methX (pv 1) (cls_Table T) (meth_Table_column T) M_Table_column (hr.mono (by decide)) bM_Table_column .nil (fun σ => passZ σ) (pa_cons (pv 2) pa_nil))))) pa_nil))))), ?_⟩, FD.bindsN fun _ _ _ _ _ _ us hl => match us, hl with | [_, _], _ => rfl, FD.kp⟩
  intro F xw
  cases hR with
  | exc a b x h =>
    exact q_seq (sx_drop (evx_call (eva_cons (ev_var rfl) (eva_cons (ev_var rfl) eva_nil)) h xw rfl))
  | ok p n o c rows whole hg FI =>
    refine q_seq (s_drop (ev_callX (eva_cons (ev_var rfl) (eva_cons (ev_var rfl) eva_nil)) (R_fit.ok p n o c rows whole hg FI)) ?_)
    obtain ⟨cl, rl, rn, nn, ca, wa⟩ := FI
    refine s_ret (ev_tofL (ev_l (evl_rngM _ (fun k => .int (c.getD k 0 * whole - col rows k)) (src_rngN (eva_cons (ev_fld (ev_var rfl) (cls_Wishes T) (noat_Wishes_things T) rfl) eva_nil) (by first | omega | (simp; omega) | (simp at *; omega))) (by omega) (fun _ h => h) (fun i hi => gd_name ⟨evt_yes, (Ev.to (ev_oi (ev_ci (ev_ixTM (f := D.int) (z := 0) (ev_fld (ev_var rfl) (cls_Wishes T) (noat_Wishes_copies T) rfl) (ev_var rfl) (by omega) (by omega)) (ev_fld (ev_var rfl) (cls_Table T) (noat_Table_whole T) rfl) (wide_mul (getD_abs ca) wa (by decide) (by decide) (by decide))) (ev_meth (ev_var rfl) rfl (eva_cons (ev_var rfl) eva_nil) (R_col.mk (tbFs p n rows whole) rows i rfl (fun r hr => by have := rl r hr; omega) rn))) (by first | rfl | simp))⟩)))) ?_
    show Rs.d _ = Rs.d _
    unfold spareL
    exact congrArg (fun z => Rs.d (D.tup z)) List.map_map
/-! ### Prices -/
abbrev prFs (lv : List Int) : List (Str × D) := [("levels", eT D.int lv)]
inductive R_prices : List D → Ri → Prop
  | mk (lv : List Int) (h : lv.length ≤ 1000) : R_prices [eL D.int lv] (.ok (prFs lv))
theorem mkI_Prices (T : Tx K mg) : ∃ fd, FnOk pw w K mg base (L2.CX pw w) 5 (He.ma K (He.ga K "Prices") "__init__") fd ["self", "levels"] (spI K (He.ga K "Prices") R_prices) ∧ Binds K fd ["self", "levels"] [] := by
  obtain ⟨fd_frozen, F_frozen, b_frozen, k_frozen⟩ := ok_frozen (w := w) (base := base) T
  obtain ⟨fd, FD⟩ := T.c.def_ 30 (d := d_Prices___init__) rfl
  have sc := sc_Prices___init__
  refine ⟨fd, fnI FD sc (fun ds r h => by cases h <;> rfl) fun cdv A outer s H E hr ds r hR => ⟨_, (pss_one (ps_fldK (K := K) rfl (pv 0) (pe_callSD F_frozen (hr.mono (by decide)) rfl (g_frozen T) k_frozen b_frozen .nil (fun σ => passAt (takes_of rfl rfl rfl rfl) σ) (pa_cons (pv 1) pa_nil)) rfl)), ?_⟩, FD.bindsN fun _ _ _ _ _ _ us hl => match us, hl with | [_, _], _ => rfl⟩
  intro F x xw
  cases hR with
  | mk lv h =>
    refine s_fld rfl (ev_callX (eva_cons (ev_var rfl) eva_nil) (R_frz.mk 3 (eL D.int lv) (okF_L (by omega) fun a _ => okF_int _ a))) (cls_Prices T) (noat_Prices_levels T) (Nat.le_of_ble_eq_true rfl) ?_
    refine ⟨_, rfl, ?_⟩
    rw [frz_L (g := D.int) fun a _ => rfl]
    rfl
/-! ### _agrees -/
def AgO (rk lv : List Int) (h o : Nat) : Prop := ¬ (rk.getD o 0 < rk.getD h 0 ∧ lv.getD o 0 ≤ lv.getD h 0) ∧ ¬ (rk.getD o 0 = rk.getD h 0 ∧ lv.getD o 0 < lv.getD h 0)
def AgH (n : Nat) (rk row lv : List Int) (h : Nat) : Prop := 0 < row.getD h 0 → ∀ o, o < n → AgO rk lv h o
def Agr (n : Nat) (rk row lv : List Int) : Prop := ∀ h, h < n → AgH n rk row lv h
instance (rk lv : List Int) (h o : Nat) : Decidable (AgO rk lv h o) := by unfold AgO; infer_instance
instance (n : Nat) (rk row lv : List Int) (h : Nat) : Decidable (AgH n rk row lv h) := by unfold AgH; infer_instance
instance (n : Nat) (rk row lv : List Int) : Decidable (Agr n rk row lv) := by unfold Agr; infer_instance
inductive R_ag (W : Addr) : List D → Rs → Prop
  | mk (p n i : Nat) (o : List (List (List Int))) (c row lv : List Int) (hi : i < o.length) (hw : row.length = n) (hl : lv.length = n) (hn : n ≤ 1000) :
      R_ag W [.obj W (wishFs p n o c), .int i, eT D.int row, eT D.int lv] (.d (.bl (decide (Agr n ((o.map (rankL n)).getD i []) row lv))))
theorem ok__agrees (T : Tx K mg) : ∃ fd, FnOk pw w K mg base (L2.CX pw w) 1 (He.ga K "_agrees") fd ["wishes", "person", "row", "levels"] (spR K (R_ag (He.ga K "Wishes"))) ∧ Binds K fd ["wishes", "person", "row", "levels"] [] ∧ PySem.W.keepIn K (.ref (He.ga K "_agrees")) = true := by
  obtain ⟨fd, FD⟩ := T.c.def_ 8 (d := d__agrees) rfl
  have sc := sc__agrees
  refine ⟨fd, fnR FD sc (fun ds r h => by cases h <;> rfl) fun cdv A outer s H E hr ds r hR => ⟨_, (pss_cons (ps_set (i := 4) sc.nd rfl (by first | exact Or.inl rfl | exact Or.inr rfl) (pe_ix (ix_tupK (K := K) rfl) (pe_fldK (K := K) rfl (pv 0) rfl) (pv 1) (fun _ _ => rfl))) (pss_cons (ps_for (passes_of rfl) rfl (pi_range1 rfl (f_range T) (pa_cons (pe_fldK (K := K) rfl (pv 0) rfl) pa_nil)) (pg_name (i := 5) sc.nd rfl (by first | exact Or.inl rfl | exact Or.inr rfl)) (pss_one (ps_if (pt_cmpR op_gt (pe_ix (ix_tupK (K := K) rfl) (pv 2) (pv 5) (fun _ _ => rfl)) pe_int (nomark _)) (pss_one (ps_for (passes_of rfl) rfl (pi_range1 rfl (f_range T) (pa_cons (pe_fldK (K := K) rfl (pv 0) rfl) pa_nil)) (pg_name (i := 6) sc.nd rfl (by first | exact Or.inl rfl | exact Or.inr rfl)) (pss_cons (ps_if (PW.pt (pw_and (pt_cmpR op_lt (pe_ix (ix_tupK (K := K) rfl) (pv 4) (pv 6) (fun _ _ => rfl)) (pe_ix (ix_tupK (K := K) rfl) (pv 4) (pv 5) (fun _ _ => rfl)) (nomark _)) (pw_and1 (pt_cmpR op_le (pe_ix (ix_tupK (K := K) rfl) (pv 3) (pv 6) (fun _ _ => rfl)) (pe_ix (ix_tupK (K := K) rfl) (pv 3) (pv 5) (fun _ _ => rfl)) (nomark _))))) (pss_one (ps_ret pe_bl)) pss_nil) (pss_one (ps_if (PW.pt (pw_and (pt_cmpR op_eq (pe_ix (ix_tupK (K := K) rfl) (pv 4) (pv 6) (fun _ _ => rfl)) (pe_ix (ix_tupK (K := K) rfl) (pv 4) (pv 5) (fun _ _ => rfl)) (nomark _)) (pw_and1 (pt_cmpR op_lt (pe_ix (ix_tupK (K := K) rfl) (pv 3) (pv 6) (fun _ _ => rfl)) (pe_ix (ix_tupK (K := K) rfl) (pv 3) (pv 5) (fun _ _ => rfl)) (nomark _))))) (pss_one (ps_ret pe_bl)) pss_nil))))) pss_nil))) (pss_one (ps_ret pe_bl)))), ?_⟩, FD.bindsN fun _ _ _ _ _ _ us hl => match us, hl with | [_, _, _, _], _ => rfl, FD.kp⟩
  intro F xw
  cases hR with
  | mk p n i o c row lv hi hw hl hn =>
    have hr : ((o.map (rankL n)).getD i []).length = n := by
      rw [List.getD_eq_getElem?_getD, List.getElem?_eq_getElem (by simpa using hi)]
      simp [rankL_len]
    refine q_seq (s_set (ev_ixTM (f := (eT D.int)) (z := []) (ev_fld (ev_var rfl) (cls_Wishes T) (noat_Wishes_ranks T) rfl) (ev_var rfl) (by first | omega | (simp; omega) | (simp at *; omega)) (by first | omega | (simp; omega) | (simp at *; omega))) ?_)
    rw [Int.toNat_natCast]
    generalize (o.map (rankL n)).getD i [] = rk at hr ⊢
    refine q_forE (fun _ : Unit => [.d (.obj (He.ga K "Wishes") (wishFs p n o c)), .d (.int i), .d (eT D.int row), .d (eT D.int lv), .d (eT D.int rk), .un, .un]) (fun j _ => ∀ h, h < j → AgH n rk row lv h) (src_rngN (eva_cons (ev_fld (ev_var rfl) (cls_Wishes T) (noat_Wishes_things T) rfl) eva_nil) (by first | omega | (simp; omega) | (simp at *; omega))) () (fun h hh => absurd hh (Nat.not_lt_zero h)) (hb := fun j _ hj hI => gd_name ?_) (hd := fun _ hI => ?_)
    · refine s_if (evt_test (ev_ob (ev_ixTM (f := D.int) (z := 0) (ev_var rfl) (ev_var rfl) (by first | omega | (simp; omega) | (simp at *; omega)) (by first | omega | (simp; omega) | (simp at *; omega))) ev_int)) (fun hb => ?_) (fun hb => ?_)
      · have hb' : 0 < row.getD j 0 := of_decide_eq_true hb
        refine s_forE (fun _ : Unit => [.d (.obj (He.ga K "Wishes") (wishFs p n o c)), .d (.int i), .d (eT D.int row), .d (eT D.int lv), .d (eT D.int rk), .d (.int j), .un]) (fun k _ => ∀ o, o < k → AgO rk lv j o) (src_rngN (eva_cons (ev_fld (ev_var rfl) (cls_Wishes T) (noat_Wishes_things T) rfl) eva_nil) (by first | omega | (simp; omega) | (simp at *; omega))) () (fun h hh => absurd hh (Nat.not_lt_zero h)) (hb := fun k _ hk hJ => gd_name ?_) (hd := fun _ δ2 hJ l => ⟨(), fun h hh => ?_, l.trans (by repeat (first | exact trivial | refine ⟨Or.inl rfl, ?_⟩ | refine ⟨Or.inr rfl, ?_⟩))⟩)
        · refine q_seq (s_if (evt_and (evt_test (ev_ob (ev_ixTM (f := D.int) (z := 0) (ev_var rfl) (ev_var rfl) (by first | omega | (simp; omega) | (simp at *; omega)) (by first | omega | (simp; omega) | (simp at *; omega))) (ev_ixTM (f := D.int) (z := 0) (ev_var rfl) (ev_var rfl) (by first | omega | (simp; omega) | (simp at *; omega)) (by first | omega | (simp; omega) | (simp at *; omega))))) (fun hc => (evt_test (ev_ob (ev_ixTM (f := D.int) (z := 0) (ev_var rfl) (ev_var rfl) (by first | omega | (simp; omega) | (simp at *; omega)) (by first | omega | (simp; omega) | (simp at *; omega))) (ev_ixTM (f := D.int) (z := 0) (ev_var rfl) (ev_var rfl) (by first | omega | (simp; omega) | (simp at *; omega)) (by first | omega | (simp; omega) | (simp at *; omega))))))) (fun hb => ?_) (fun hb => ?_))
          · have hz : ¬ Agr n rk row lv := fun z => (z j hj hb' k hk).1 ⟨of_decide_eq_true (Bool.and_eq_true_iff.mp hb).1, of_decide_eq_true (Bool.and_eq_true_iff.mp hb).2⟩
            rw [decide_eq_false hz]
            refine s_ret ev_bl ?_
            rfl
          · refine s_next ?_
            have hz1 : ¬ (rk.getD k 0 < rk.getD j 0 ∧ lv.getD k 0 ≤ lv.getD j 0) := fun z => by
              simp only [Int.toNat_natCast] at hb
              rw [decide_eq_true z.1, decide_eq_true z.2] at hb
              cases hb
            clear hb
            refine s_if (evt_and (evt_test (ev_eqi (ev_ixTM (f := D.int) (z := 0) (ev_var rfl) (ev_var rfl) (by first | omega | (simp; omega) | (simp at *; omega)) (by first | omega | (simp; omega) | (simp at *; omega))) (ev_ixTM (f := D.int) (z := 0) (ev_var rfl) (ev_var rfl) (by first | omega | (simp; omega) | (simp at *; omega)) (by first | omega | (simp; omega) | (simp at *; omega))))) (fun hc => (evt_test (ev_ob (ev_ixTM (f := D.int) (z := 0) (ev_var rfl) (ev_var rfl) (by first | omega | (simp; omega) | (simp at *; omega)) (by first | omega | (simp; omega) | (simp at *; omega))) (ev_ixTM (f := D.int) (z := 0) (ev_var rfl) (ev_var rfl) (by first | omega | (simp; omega) | (simp at *; omega)) (by first | omega | (simp; omega) | (simp at *; omega))))))) (fun hb => ?_) (fun hb => ?_)
            · have hz : ¬ Agr n rk row lv := fun z => (z j hj hb' k hk).2 ⟨of_decide_eq_true (Bool.and_eq_true_iff.mp hb).1, of_decide_eq_true (Bool.and_eq_true_iff.mp hb).2⟩
              rw [decide_eq_false hz]
              refine s_ret ev_bl ?_
              rfl
            · refine s_next (at_mk () fun o ho => ?_)
              have hz2 : ¬ (rk.getD k 0 = rk.getD j 0 ∧ lv.getD k 0 < lv.getD j 0) := fun z => by
                simp only [Int.toNat_natCast] at hb
                rw [decide_eq_true z.1, decide_eq_true z.2] at hb
                cases hb
              rcases Nat.lt_succ_iff_lt_or_eq.mp ho with ho | rfl
              · exact hJ o ho
              · exact ⟨hz1, hz2⟩
        · rcases Nat.lt_succ_iff_lt_or_eq.mp hh with hh | rfl
          · exact hI h hh
          · exact fun _ o ho => hJ o ho
      · refine s_next (at_mk () fun h hh => ?_)
        rcases Nat.lt_succ_iff_lt_or_eq.mp hh with hh | rfl
        · exact hI h hh
        · exact fun z => absurd z (of_decide_eq_false hb)
    · rw [decide_eq_true (show Agr n rk row lv from hI)]
      refine s_ret ev_bl ?_
      rfl
/-! ### shows_prices -/
def FreeOk (n : Nat) (free lv : List Int) (k : Nat) : Prop := 0 ≤ lv.getD k 0 ∧ ¬ (0 < free.getD k 0 ∧ 0 < lv.getD k 0)
def Due (n : Nat) (rks rows : List (List Int)) (free lv : List Int) : Prop := lv.length = n ∧ (∀ k, k < n → FreeOk n free lv k) ∧ ∀ p, p < rows.length → Agr n (rks.getD p []) (rows.getD p []) lv
instance (n : Nat) (free lv : List Int) (k : Nat) : Decidable (FreeOk n free lv k) := by unfold FreeOk; infer_instance
instance (n : Nat) (rks rows : List (List Int)) (free lv : List Int) : Decidable (Due n rks rows free lv) := by unfold Due; infer_instance
inductive R_show (MF W TB PR : Addr) : List D → Rs → Prop
  | exc (a b c : List (Str × D)) (x : D) (h : R_fit MF W TB [.obj W a, .obj TB b] (.exc MF "thing" x)) : R_show MF W TB PR [.obj W a, .obj TB b, .obj PR c] (.exc MF "thing" x)
  | ok (p n : Nat) (o : List (List (List Int))) (c : List Int) (rows : List (List Int)) (whole : Int) (lv : List Int) (hg : ∀ j, j < n → ¬ c.getD j 0 * whole < col rows j) (F : FitIn n c rows whole) (hp : rows.length = p) (ho : o.length = p) (hl : lv.length ≤ 1000) :
      R_show MF W TB PR [.obj W (wishFs p n o c), .obj TB (tbFs p n rows whole), .obj PR (prFs lv)] (.d (.bl (decide (Due n (o.map (rankL n)) rows (spareL n c rows whole) lv))))
theorem ok_shows_prices (T : Tx K mg) : ∃ fd, FnOk pw w K mg base (L2.CX pw w) 5 (He.ga K "shows_prices") fd ["wishes", "table", "prices"] (spR K (R_show (He.ga K "Misfit") (He.ga K "Wishes") (He.ga K "Table") (He.ga K "Prices"))) ∧ Binds K fd ["wishes", "table", "prices"] [] ∧ PySem.W.keepIn K (.ref (He.ga K "shows_prices")) = true := by
  obtain ⟨fd_spare, F_spare, b_spare, k_spare⟩ := ok_spare (w := w) (base := base) T
  obtain ⟨fd__agrees, F__agrees, b__agrees, k__agrees⟩ := ok__agrees (w := w) (base := base) T
  obtain ⟨fd, FD⟩ := T.c.def_ 9 (d := d_shows_prices) rfl
  have sc := sc_shows_prices
  refine ⟨fd, fnR FD sc (fun ds r h => by cases h <;> rfl) fun cdv A outer s H E hr ds r hR => ⟨_, (pss_cons (ps_set (i := 3) sc.nd rfl (by first | exact Or.inl rfl | exact Or.inr rfl) (pe_callSD F_spare (hr.mono (by decide)) rfl (g_spare T) k_spare b_spare .nil (fun σ => passAt (takes_of rfl rfl rfl rfl) σ) (pa_cons (pv 0) (pa_cons (pv 1) pa_nil)))) (pss_cons (ps_set (i := 4) sc.nd rfl (by first | exact Or.inl rfl | exact Or.inr rfl) (pe_fldK (K := K) rfl (pv 2) rfl)) (pss_cons (ps_if (pt_cmpR op_ne (pe_callB (call_len_seqK (K := K) rfl) rfl (f_len T) PySem.boot_len (pa_cons (pv 4) pa_nil)) (pe_fldK (K := K) rfl (pv 0) rfl) (nomark _)) (pss_one (ps_ret pe_bl)) pss_nil) (pss_cons (ps_for (passes_of rfl) rfl (pi_range1 rfl (f_range T) (pa_cons (pe_fldK (K := K) rfl (pv 0) rfl) pa_nil)) (pg_name (i := 5) sc.nd rfl (by first | exact Or.inl rfl | exact Or.inr rfl)) (pss_one (ps_if (PW.pt (pw_or (pt_cmpR op_lt (pe_ix (ix_tupK (K := K) rfl) (pv 4) (pv 5) (fun _ _ => rfl)) pe_int (nomark _)) (pw_or1 (PW.pt (pw_and (pt_cmpR op_gt (pe_ix (ix_tupK (K := K) rfl) (pv 3) (pv 5) (fun _ _ => rfl)) pe_int (nomark _)) (pw_and1 (pt_cmpR op_gt (pe_ix (ix_tupK (K := K) rfl) (pv 4) (pv 5) (fun _ _ => rfl)) pe_int (nomark _)))))))) (pss_one (ps_ret pe_bl)) pss_nil))) (pss_one (ps_ret (pe_callB (cr_allK (K := K) rfl rfl) rfl (f_all T) (by decide +kernel) (pa_cons (pe_lc (own := [("person", 6)]) (g := gName 6) (tt := tYes) rfl sc.nd (pi_range1 rfl (f_range T) (pa_cons (pe_fldK (K := K) rfl (pv 0) rfl) pa_nil)) (blkOk_by (N := ["wishes", "table", "prices", "free", "levels", "thing", "person"]) (sc := defScope s_shows_prices) (by decide +kernel)) (fun _ _ _ _ _ => (pg_name (i := 6) sc.nd rfl (by first | exact Or.inl rfl | exact Or.inr rfl))) (fun _ _ _ _ _ => pts_nil) (fun _ _ _ _ _ => (pe_callSD F__agrees (hr.mono (by decide)) rfl (g__agrees T) k__agrees b__agrees .nil (fun σ => passZ σ) (pa_cons (pv 0) (pa_cons (pv 6) (pa_cons (pe_ix (ix_tupK (K := K) rfl) (pe_fldK (K := K) rfl (pv 1) rfl) (pv 6) (fun _ _ => rfl)) (pa_cons (pv 4) pa_nil))))))) pa_nil)))))))), ?_⟩, FD.bindsN fun _ _ _ _ _ _ us hl => match us, hl with | [_, _, _], _ => rfl, FD.kp⟩
  intro F xw
  cases hR with
  | exc a b c x h =>
    exact q_seq (sx_asg (evx_call (eva_cons (ev_var rfl) (eva_cons (ev_var rfl) eva_nil)) (R_spare.exc a b x h) xw rfl))
  | ok p n o c rows whole lv hg FI hp ho hl =>
    refine q_seq (s_set (ev_callX (eva_cons (ev_var rfl) (eva_cons (ev_var rfl) eva_nil)) (R_spare.ok p n o c rows whole hg FI)) ?_)
    obtain ⟨cl, rl, rn, nn, ca, wa⟩ := FI
    have hsl : (spareL n c rows whole).length = n := by simp [spareL]
    generalize spareL n c rows whole = free at hsl
    refine q_seq (s_set (ev_fld (ev_var rfl) (cls_Prices T) (noat_Prices_levels T) rfl) ?_)
    refine q_seq (s_if (evt_test (ev_nei (ev_lenMT (f := D.int) (ev_var rfl)) (ev_fld (ev_var rfl) (cls_Wishes T) (noat_Wishes_things T) rfl))) (fun hb => ?_) (fun hb => ?_))
    · have hz : ¬ Due n (o.map (rankL n)) rows free lv := fun z => by
        rw [z.1] at hb
        simp at hb
      rw [decide_eq_false hz]
      refine s_ret ev_bl ?_
      rfl
    refine s_next ?_
    have hlen : lv.length = n := by
      have hb : (!decide ((lv.length : Int) = n)) = false := hb
      simp at hb
      omega
    refine q_forE (fun _ : Unit => [.d (.obj (He.ga K "Wishes") (wishFs p n o c)), .d (.obj (He.ga K "Table") (tbFs p n rows whole)), .d (.obj (He.ga K "Prices") (prFs lv)), .d (eT D.int free), .d (eT D.int lv), .un, .un]) (fun j _ => ∀ k, k < j → FreeOk n free lv k) (src_rngN (eva_cons (ev_fld (ev_var rfl) (cls_Wishes T) (noat_Wishes_things T) rfl) eva_nil) (by first | omega | (simp; omega) | (simp at *; omega))) () (fun h hh => absurd hh (Nat.not_lt_zero h)) (hb := fun j _ hj hI => gd_name ?_) (hd := fun _ hI => ?_)
    · refine s_if (evt_or (evt_test (ev_ob (ev_ixTM (f := D.int) (z := 0) (ev_var rfl) (ev_var rfl) (by first | omega | (simp; omega) | (simp at *; omega)) (by first | omega | (simp; omega) | (simp at *; omega))) ev_int)) (fun hc => (evt_and (evt_test (ev_ob (ev_ixTM (f := D.int) (z := 0) (ev_var rfl) (ev_var rfl) (by first | omega | (simp; omega) | (simp at *; omega)) (by first | omega | (simp; omega) | (simp at *; omega))) ev_int)) (fun hc => (evt_test (ev_ob (ev_ixTM (f := D.int) (z := 0) (ev_var rfl) (ev_var rfl) (by first | omega | (simp; omega) | (simp at *; omega)) (by first | omega | (simp; omega) | (simp at *; omega))) ev_int)))))) (fun hb => ?_) (fun hb => ?_)
      · have hz : ¬ Due n (o.map (rankL n)) rows free lv := fun z => by
          have h3 := z.2.1 j hj
          unfold FreeOk at h3
          simp only [Bool.or_eq_true, Bool.and_eq_true, decide_eq_true_eq, Int.toNat_natCast] at hb
          omega
        rw [decide_eq_false hz]
        refine s_ret ev_bl ?_
        rfl
      · refine s_next (at_mk () fun k hk => ?_)
        rcases Nat.lt_succ_iff_lt_or_eq.mp hk with hk | rfl
        · exact hI k hk
        · unfold FreeOk
          simp only [Bool.or_eq_false_iff, Bool.and_eq_false_iff, decide_eq_false_iff_not, Int.toNat_natCast] at hb
          omega
    · refine s_ret (ev_allM (ev_l (evl_rngM _ (fun k => .bl (decide (Agr n ((o.map (rankL n)).getD k []) (rows.getD k []) lv))) (src_rngN (eva_cons (ev_fld (ev_var rfl) (cls_Wishes T) (noat_Wishes_people T) rfl) eva_nil) (by first | omega | (simp; omega) | (simp at *; omega))) (by first | omega | (simp; omega) | (simp at *; omega)) (fun _ h => h) (fun i hi => gd_name ⟨evt_yes, (Ev.to (ev_callX (eva_cons (ev_var rfl) (eva_cons (ev_var rfl) (eva_cons (ev_ixTM (f := (eT D.int)) (z := []) (ev_fld (ev_var rfl) (cls_Table T) (noat_Table_rows T) rfl) (ev_var rfl) (by omega) (by omega)) (eva_cons (ev_var rfl) eva_nil)))) (R_ag.mk p n i o c (rows.getD i []) lv (by omega) (rl _ (getD_mem (by omega))) hlen (by omega))) (by first | rfl | simp))⟩)))) ?_
      have e : ((List.range p).all fun a => decide (Agr n ((o.map (rankL n)).getD a []) (rows.getD a []) lv)) = decide (Due n (o.map (rankL n)) rows free lv) := by
        rw [Bool.eq_iff_iff, List.all_eq_true, decide_eq_true_iff]
        unfold Due
        constructor
        · intro h
          exact ⟨hlen, hI, fun q hq => of_decide_eq_true (h q (List.mem_range.mpr (by omega)))⟩
        · intro h q hq
          exact decide_eq_true (h.2.2 q (by have := List.mem_range.mp hq; omega))
      rw [e]
      rfl
end
end G17
set_option Elab.async false
set_option linter.all false
set_option maxRecDepth 100000
set_option maxHeartbeats 4000000
set_option exponentiation.threshold 2000
namespace G17
open PySem PySem.Spec PyProof.Rows L2 L3
theorem set_range {f g : Nat → Int} {n i : Nat} {v : Int} (hi : i < n) (h : ∀ k, k < n → k ≠ i → f k = g k) (hv : v = g i) : ((List.range n).map f).set i v = (List.range n).map g := by
  refine List.ext_getElem (by simp) fun k h1 h2 => ?_
  simp only [List.length_set, List.length_map, List.length_range] at h1
  rw [List.getElem_set]
  by_cases z : i = k
  · subst z
    simp [hv]
  · simp [z, h k h1 fun y => z y.symm]
theorem snoc_map {α : Type} {f : α → D} {l : List α} {a : α} {d : D} (h : f a = d) : l.map f ++ [d] = (l ++ [a]).map f := by
  rw [← h]
  simp
section
variable {w : World} {K : PySem.W.Frag} {mg : Str → Option Value} {base : Heap}
/-! ### _law_rows -/
def topOf (c : Int) : Int := if c % 4 = 1 then 10 ^ 38 else 4
theorem topOf_in (c : Int) : 0 < topOf c ∧ topOf c ≤ 10 ^ 38 := by
  unfold topOf
  split <;> decide
def at_ (deal tn : List Int) (i k : Nat) : Nat := (deal.getD (((i : Int) + tn.getD k 0) % (deal.length : Int)).toNat 0).toNat
def addAt (deal tn tk : List Int) (i : Nat) (r : List Int) (k : Nat) : List Int := r.set (at_ deal tn i k) (r.getD (at_ deal tn i k) 0 + 1 + tk.getD k 0)
def rowOf (deal tn tk : List Int) (n i m : Nat) : List Int := (List.range m).foldl (addAt deal tn tk i) (List.replicate n 0)
theorem rowOf_len (deal tn tk : List Int) (n i : Nat) : ∀ m, (rowOf deal tn tk n i m).length = n
  | 0 => by simp [rowOf]
  | m + 1 => by
    unfold rowOf
    rw [List.range_succ, List.foldl_append]
    show (addAt deal tn tk i (rowOf deal tn tk n i m) m).length = n
    unfold addAt
    rw [List.length_set, rowOf_len deal tn tk n i m]
theorem rowOf_succ (deal tn tk : List Int) (n i m : Nat) : rowOf deal tn tk n i (m + 1) = addAt deal tn tk i (rowOf deal tn tk n i m) m := by
  unfold rowOf
  rw [List.range_succ, List.foldl_append]
  rfl
def rowsL (ns deal : List Int) (n : Nat) : List (List Int) := (List.range deal.length).map fun i => rowOf deal (drawn (cell ns 2) 3 deal.length) (drawn (cell ns 3) 3 (topOf (cell ns 1))) n i 3
inductive R_rows : List D → Rs → Prop
  | mk (ns deal : List Int) (n : Nat) (h : ∀ e ∈ deal, 0 ≤ e ∧ e < n) (hp : 1 ≤ deal.length ∧ deal.length ≤ 12) (hn : n ≤ 12) : R_rows [.scr ns, eL D.int deal, .int n] (.l ((rowsL ns deal n).map (eL D.int)))
theorem ok__law_rows (T : Tx K mg) : ∃ fd, FnOk pw w K mg base (L2.CX pw w) 2 (He.ga K "_law_rows") fd ["script", "deal", "things"] (spR K R_rows) ∧ Binds K fd ["script", "deal", "things"] [] ∧ PySem.W.keepIn K (.ref (He.ga K "_law_rows")) = true := by
  obtain ⟨fd__law_cell, F__law_cell, b__law_cell, k__law_cell⟩ := ok__law_cell (w := w) (base := base) T
  obtain ⟨fd__law_drawn, F__law_drawn, b__law_drawn, k__law_drawn⟩ := ok__law_drawn (w := w) (base := base) T
  obtain ⟨fd, FD⟩ := T.c.def_ 12 (d := d__law_rows) rfl
  have sc := sc__law_rows
  refine ⟨fd, fnR FD sc (fun ds r h => by cases h <;> rfl) fun cdv A outer s H E hr ds r hR => ⟨_, (pss_cons (ps_set (i := 3) sc.nd rfl (by first | exact Or.inl rfl | exact Or.inr rfl) (pe_callB (call_len_seqK (K := K) rfl) rfl (f_len T) PySem.boot_len (pa_cons (pv 1) pa_nil))) (pss_cons (ps_set (i := 4) sc.nd rfl (by first | exact Or.inl rfl | exact Or.inr rfl) pe_int) (pss_cons (ps_if (pt_cmpR op_eq (pe_op op_mod (pe_callTy call_int1 rfl (f_int T) (by decide +kernel) (pa_cons (pe_callSD F__law_cell (hr.mono (by decide)) rfl (g__law_cell T) k__law_cell b__law_cell .nil (fun σ => passAt (takes_of rfl rfl rfl rfl) σ) (pa_cons (pv 0) (pa_cons pe_int pa_nil))) pa_nil)) pe_int) pe_int (nomark _)) (pss_one (ps_set (i := 4) sc.nd rfl (by first | exact Or.inl rfl | exact Or.inr rfl) (pe_op op_pow pe_int pe_int))) pss_nil) (pss_cons (ps_set (i := 5) sc.nd rfl (by first | exact Or.inl rfl | exact Or.inr rfl) (pe_callSD F__law_drawn (hr.mono (by decide)) rfl (g__law_drawn T) k__law_drawn b__law_drawn .nil (fun σ => passAt (takes_of rfl rfl rfl rfl) σ) (pa_cons (pe_callSD F__law_cell (hr.mono (by decide)) rfl (g__law_cell T) k__law_cell b__law_cell .nil (fun σ => passAt (takes_of rfl rfl rfl rfl) σ) (pa_cons (pv 0) (pa_cons pe_int pa_nil))) (pa_cons pe_int (pa_cons (pv 3) pa_nil))))) (pss_cons (ps_set (i := 6) sc.nd rfl (by first | exact Or.inl rfl | exact Or.inr rfl) (pe_callSD F__law_drawn (hr.mono (by decide)) rfl (g__law_drawn T) k__law_drawn b__law_drawn .nil (fun σ => passAt (takes_of rfl rfl rfl rfl) σ) (pa_cons (pe_callSD F__law_cell (hr.mono (by decide)) rfl (g__law_cell T) k__law_cell b__law_cell .nil (fun σ => passAt (takes_of rfl rfl rfl rfl) σ) (pa_cons (pv 0) (pa_cons pe_int pa_nil))) (pa_cons pe_int (pa_cons (pv 4) pa_nil))))) (pss_cons (ps_set (i := 7) sc.nd rfl (by first | exact Or.inl rfl | exact Or.inr rfl) (pe_lst pa_nil)) (pss_cons (ps_for (passes_of rfl) rfl (pi_range1 rfl (f_range T) (pa_cons (pv 3) pa_nil)) (pg_name (i := 8) sc.nd rfl (by first | exact Or.inl rfl | exact Or.inr rfl)) (pss_cons (ps_set (i := 9) sc.nd rfl (by first | exact Or.inl rfl | exact Or.inr rfl) (pe_op op_rep (pe_lst (pa_cons pe_int pa_nil)) (pv 2))) (pss_cons (ps_for (passes_of rfl) rfl (pi_range1 rfl (f_range T) (pa_cons pe_int pa_nil)) (pg_name (i := 10) sc.nd rfl (by first | exact Or.inl rfl | exact Or.inr rfl)) (pss_cons (ps_set (i := 11) sc.nd rfl (by first | exact Or.inl rfl | exact Or.inr rfl) (pe_ix (ix_listK (K := K) rfl) (pv 1) (pe_op op_mod (pe_callTy call_int1 rfl (f_int T) (by decide +kernel) (pa_cons (pe_op op_add (pv 8) (pe_ix (ix_listK (K := K) rfl) (pv 5) (pv 10) (fun _ _ => rfl))) pa_nil)) (pv 3)) (fun _ _ => rfl))) (pss_one (ps_asg (pe_op op_add (pe_op op_add (pe_ix (ix_listK (K := K) rfl) (pv 9) (pv 11) (fun _ _ => rfl)) pe_int) (pe_ix (ix_listK (K := K) rfl) (pv 6) (pv 10) (fun _ _ => rfl))) (pg_sub (pv 9) (pv 11) set_list))))) (pss_one (ps_expr (pe_appK (K := K) rfl (pv 7) (pa_cons (pv 9) pa_nil))))))) (pss_one (ps_ret (pv 7)))))))))), ?_⟩, FD.bindsN fun _ _ _ _ _ _ us hl => match us, hl with | [_, _, _], _ => rfl, FD.kp⟩
  intro F xw
  cases hR with
  | mk ns deal n h hp hn =>

    refine q_seq (s_set (ev_lenM (f := D.int) (ev_var rfl)) ?_)
    refine q_seq (s_set ev_int ?_)
    refine q_midE (fun top : Int => [.d (.scr ns), .d (eL D.int deal), .d (.int n), .d (.int deal.length), .d (.int top), .un, .un, .un, .un, .un, .un, .un]) (fun top => top = topOf (cell ns 1)) ?_ ?_
    · refine s_if (evt_test (ev_eqi (ev_ci (ev_int1 (ev_callX (eva_cons (ev_var rfl) (eva_cons ev_int eva_nil)) (R_cell.mk ns 1 (by decide)))) ev_int (by decide)) ev_int)) (fun hb => ?_) (fun hb => ?_)
      · have z : cell ns 1 % 4 = 1 := by simpa using hb
        refine s_set (ev_ci ev_int ev_int ⟨by decide, by decide, by decide⟩) ?_
        exact at_mk (10 ^ 38) (show (10 : Int) ^ 38 = topOf (cell ns 1) by unfold topOf; rw [if_pos z])
      · have z : ¬ cell ns 1 % 4 = 1 := by simpa using hb
        exact s_next (at_mk 4 (show (4 : Int) = topOf (cell ns 1) by unfold topOf; rw [if_neg z]))
    rintro top htop
    obtain ⟨t1, t2⟩ := topOf_in (cell ns 1)
    rw [← htop] at t1 t2
    have tz : top.natAbs < 2 ^ 200 := Nat.lt_of_le_of_lt (show top.natAbs ≤ 10 ^ 38 by omega) (by decide)
    refine q_seq (s_set (ev_l (evl_callX (eva_cons (ev_callX (eva_cons (ev_var rfl) (eva_cons ev_int eva_nil)) (R_cell.mk ns 2 (by decide))) (eva_cons ev_int (eva_cons (ev_var rfl) eva_nil))) (R_drawn.mk (cell ns 2) 3 deal.length (by decide) (by omega) (by omega)))) ?_)
    refine q_seq (s_set (ev_l (evl_callX (eva_cons (ev_callX (eva_cons (ev_var rfl) (eva_cons ev_int eva_nil)) (R_cell.mk ns 3 (by decide))) (eva_cons ev_int (eva_cons (ev_var rfl) eva_nil))) (R_drawn.mk (cell ns 3) 3 top (by decide) t1 tz))) ?_)
    have htl : (drawn (cell ns 2) 3 deal.length).length = 3 := drawn_len _ _ _
    have hkl : (drawn (cell ns 3) 3 top).length = 3 := drawn_len _ _ _
    have hrows : rowsL ns deal n = (List.range deal.length).map fun i => rowOf deal (drawn (cell ns 2) 3 deal.length) (drawn (cell ns 3) 3 top) n i 3 := by rw [htop]; rfl
    rw [hrows]
    generalize drawn (cell ns 2) 3 deal.length = tn at htl
    generalize drawn (cell ns 3) 3 top = tk at hkl

    refine q_seq (s_setl (evl_nilM (α := Int) (f := D.int)) ?_)
    refine q_forE (fun Q : List (List Int) => [.d (.scr ns), .d (eL D.int deal), .d (.int n), .d (.int deal.length), .d (.int top), .d (eL D.int tn), .d (eL D.int tk), .own (.lst (Q.map (eL D.int))), .un, .un, .un, .un]) (fun i Q => Q = (List.range i).map fun i => rowOf deal tn tk n i 3) (src_rngN (eva_cons (ev_var rfl) eva_nil) (by first | omega | (simp; omega) | (simp at *; omega))) [] rfl (hb := fun i Q hi hQ => gd_name ?_) (hd := fun Q hQ => ?_)
    · have hQl : Q.length = i := by rw [hQ]; simp

      refine q_seq (s_setl (evl_repM ev_int (ev_var rfl) (by omega)) ?_)
      rw [Int.toNat_natCast]
      refine q_forE (fun r : List Int => [.d (.scr ns), .d (eL D.int deal), .d (.int n), .d (.int deal.length), .d (.int top), .d (eL D.int tn), .d (eL D.int tk), .own (.lst (Q.map (eL D.int))), .d (.int i), .own (.lst (r.map D.int)), .un, .un]) (fun m r => r = rowOf deal tn tk n i m) (src_rngN (n := 3) (eva_cons ev_int eva_nil) (by decide)) (List.replicate n 0) rfl (hb := fun m r hm hr => gd_name ?_) (hd := fun r hr => ?_)
      · have hrl : r.length = n := by rw [hr]; exact rowOf_len _ _ _ _ _ _
        have hmod : ∀ x : Int, 0 ≤ x % (deal.length : Int) ∧ x % (deal.length : Int) < deal.length := fun x => ⟨Int.emod_nonneg _ (by omega), Int.emod_lt_of_pos _ (by omega)⟩
        have ep : (((i : Int) + tn.getD m 0) % (deal.length : Int)).toNat < deal.length := by
          have := Int.emod_lt_of_pos ((i : Int) + tn.getD m 0) (show (0 : Int) < deal.length by omega)
          omega
        have et := h _ (getD_mem (z := 0) ep)
        have ea : at_ deal tn i m < n := by unfold at_; omega
        have hm' := hmod ((i : Int) + tn.getD m 0)
        refine q_seq (s_set (ev_ixLM (f := D.int) (z := 0) (ev_var rfl) (ev_ci (ev_int1 (ev_oi (ev_var rfl) (ev_ixLM (f := D.int) (z := 0) (ev_var rfl) (ev_var rfl) (by omega) (by omega)))) (ev_var rfl) (by omega)) (by simp only [Int.toNat_natCast]; omega) (by simp only [Int.toNat_natCast]; omega)) ?_)
        refine s_seto rfl (ev_rd (by first | rfl | exact pures_int _ | exact pures_bl _ | decide) (ev_oi (ev_oi (ev_ixLM (f := D.int) (z := 0) (ev_var rfl) (ev_var rfl) (by first | omega | (simp; omega) | (simp at *; omega)) (by first | omega | (simp; omega) | (simp at *; omega))) ev_int) (ev_ixLM (f := D.int) (z := 0) (ev_var rfl) (ev_var rfl) (by first | omega | (simp; omega) | (simp at *; omega)) (by first | omega | (simp; omega) | (simp at *; omega))))) (ev_var rfl) (ixN_ok (by first | omega | (simp; omega) | (simp at *; omega)) (by first | omega | (simp; omega) | (simp at *; omega))) ?_
        rw [map_setI]
        refine at_mk _ ?_
        rw [rowOf_succ, ← hr]
        rfl
      · subst hr
        refine s_fz 9 rfl rfl ?_

        refine s_app rfl (ev_var rfl) (by first | omega | (simp; omega) | (simp at *; omega)) ?_
        rw [snoc_map (f := eL D.int) (a := rowOf deal tn tk n i 3) rfl]
        refine at_mk _ ?_
        rw [hQ, List.range_succ, List.map_append]
        rfl
    · subst hQ
      refine s_reto rfl ?_
      rfl
end
end G17
set_option Elab.async false
set_option linter.all false
set_option maxRecDepth 100000
set_option maxHeartbeats 4000000
set_option exponentiation.threshold 2000
namespace G17
open PySem PySem.Spec PyProof.Rows L2 L3
section
variable {w : World} {K : PySem.W.Frag} {mg : Str → Option Value} {base : Heap}
/-! ### _law_levels -/
def topP (c : Int) : Int := if c / 4 % 4 = 1 then 10 ^ 20 else 10
theorem topP_in (c : Int) : 0 < topP c ∧ topP c ≤ 10 ^ 20 := by
  unfold topP
  split <;> decide
def levelAt (deal kept dr : List Int) (k : Nat) : Int := if (k : Int) ∈ deal ∧ 0 < kept.getD k 0 then dr.getD k 0 else 0
def levelsL (ns deal : List Int) (n : Nat) : List Int := (List.range n).map (levelAt deal (drawn (cell ns 4) n 4) (drawn (cell ns 5) n (topP (cell ns 1))))
inductive R_lev : List D → Rs → Prop
  | mk (ns deal : List Int) (n : Nat) (hp : deal.length ≤ 12) (hn : n ≤ 12) : R_lev [.scr ns, eL D.int deal, .int n] (.l ((levelsL ns deal n).map D.int))
theorem ok__law_levels (T : Tx K mg) : ∃ fd, FnOk pw w K mg base (L2.CX pw w) 2 (He.ga K "_law_levels") fd ["script", "deal", "things"] (spR K R_lev) ∧ Binds K fd ["script", "deal", "things"] [] ∧ PySem.W.keepIn K (.ref (He.ga K "_law_levels")) = true := by
  obtain ⟨fd__law_cell, F__law_cell, b__law_cell, k__law_cell⟩ := ok__law_cell (w := w) (base := base) T
  obtain ⟨fd__law_drawn, F__law_drawn, b__law_drawn, k__law_drawn⟩ := ok__law_drawn (w := w) (base := base) T
  obtain ⟨fd, FD⟩ := T.c.def_ 13 (d := d__law_levels) rfl
  have sc := sc__law_levels
  refine ⟨fd, fnR FD sc (fun ds r h => by cases h <;> rfl) fun cdv A outer s H E hr ds r hR => ⟨_, (pss_cons (ps_set (i := 3) sc.nd rfl (by first | exact Or.inl rfl | exact Or.inr rfl) pe_int) (pss_cons (ps_if (pt_cmpR op_eq (pe_op op_mod (pe_callTy call_int1 rfl (f_int T) (by decide +kernel) (pa_cons (pe_op op_fdivW (pe_callSD F__law_cell (hr.mono (by decide)) rfl (g__law_cell T) k__law_cell b__law_cell .nil (fun σ => passAt (takes_of rfl rfl rfl rfl) σ) (pa_cons (pv 0) (pa_cons pe_int pa_nil))) pe_int) pa_nil)) pe_int) pe_int (nomark _)) (pss_one (ps_set (i := 3) sc.nd rfl (by first | exact Or.inl rfl | exact Or.inr rfl) (pe_op op_pow pe_int pe_int))) pss_nil) (pss_cons (ps_set (i := 4) sc.nd rfl (by first | exact Or.inl rfl | exact Or.inr rfl) (pe_callSD F__law_drawn (hr.mono (by decide)) rfl (g__law_drawn T) k__law_drawn b__law_drawn .nil (fun σ => passAt (takes_of rfl rfl rfl rfl) σ) (pa_cons (pe_callSD F__law_cell (hr.mono (by decide)) rfl (g__law_cell T) k__law_cell b__law_cell .nil (fun σ => passAt (takes_of rfl rfl rfl rfl) σ) (pa_cons (pv 0) (pa_cons pe_int pa_nil))) (pa_cons (pv 2) (pa_cons pe_int pa_nil))))) (pss_cons (ps_set (i := 5) sc.nd rfl (by first | exact Or.inl rfl | exact Or.inr rfl) (pe_callSD F__law_drawn (hr.mono (by decide)) rfl (g__law_drawn T) k__law_drawn b__law_drawn .nil (fun σ => passAt (takes_of rfl rfl rfl rfl) σ) (pa_cons (pe_callSD F__law_cell (hr.mono (by decide)) rfl (g__law_cell T) k__law_cell b__law_cell .nil (fun σ => passAt (takes_of rfl rfl rfl rfl) σ) (pa_cons (pv 0) (pa_cons pe_int pa_nil))) (pa_cons (pv 2) (pa_cons (pv 3) pa_nil))))) (pss_cons (ps_set (i := 6) sc.nd rfl (by first | exact Or.inl rfl | exact Or.inr rfl) (pe_op op_rep (pe_lst (pa_cons pe_int pa_nil)) (pv 2))) (pss_cons (ps_for (passes_of rfl) rfl (pi_range1 rfl (f_range T) (pa_cons (pv 2) pa_nil)) (pg_name (i := 7) sc.nd rfl (by first | exact Or.inl rfl | exact Or.inr rfl)) (pss_one (ps_if (PW.pt (pw_and (pt_cmpR (op_in_seqK (K := K) rfl) (pv 7) (pv 1) (by rfl)) (pw_and1 (pt_cmpR op_gt (pe_ix (ix_listK (K := K) rfl) (pv 4) (pv 7) (fun _ _ => rfl)) pe_int (nomark _))))) (pss_one (ps_asg (pe_ix (ix_listK (K := K) rfl) (pv 5) (pv 7) (fun _ _ => rfl)) (pg_sub (pv 6) (pv 7) set_list))) pss_nil))) (pss_one (ps_ret (pv 6))))))))), ?_⟩, FD.bindsN fun _ _ _ _ _ _ us hl => match us, hl with | [_, _, _], _ => rfl, FD.kp⟩
  intro F xw
  cases hR with
  | mk ns deal n hp hn =>

    refine q_seq (s_set ev_int ?_)
    refine q_midE (fun top : Int => [.d (.scr ns), .d (eL D.int deal), .d (.int n), .d (.int top), .un, .un, .un, .un]) (fun top => top = topP (cell ns 1)) ?_ ?_
    · refine s_if (evt_test (ev_eqi (ev_ci (ev_int1 (ev_ci (ev_callX (eva_cons (ev_var rfl) (eva_cons ev_int eva_nil)) (R_cell.mk ns 1 (by decide))) ev_int (wdiv (by decide) (by decide) _))) ev_int (by decide)) ev_int)) (fun hb => ?_) (fun hb => ?_)
      · have z : cell ns 1 / 4 % 4 = 1 := by simpa using hb
        refine s_set (ev_ci ev_int ev_int ⟨by decide, by decide, by decide⟩) ?_
        exact at_mk (10 ^ 20) (show (10 : Int) ^ 20 = topP (cell ns 1) by unfold topP; rw [if_pos z])
      · have z : ¬ cell ns 1 / 4 % 4 = 1 := by simpa using hb
        exact s_next (at_mk 10 (show (10 : Int) = topP (cell ns 1) by unfold topP; rw [if_neg z]))
    rintro top htop
    obtain ⟨t1, t2⟩ := topP_in (cell ns 1)
    rw [← htop] at t1 t2
    have tz : top.natAbs < 2 ^ 200 := Nat.lt_of_le_of_lt (show top.natAbs ≤ 10 ^ 20 by omega) (by decide)
    refine q_seq (s_set (ev_l (evl_callX (eva_cons (ev_callX (eva_cons (ev_var rfl) (eva_cons ev_int eva_nil)) (R_cell.mk ns 4 (by decide))) (eva_cons (ev_var rfl) (eva_cons ev_int eva_nil))) (R_drawn.mk (cell ns 4) n 4 (by omega) (by decide) (by decide)))) ?_)
    refine q_seq (s_set (ev_l (evl_callX (eva_cons (ev_callX (eva_cons (ev_var rfl) (eva_cons ev_int eva_nil)) (R_cell.mk ns 5 (by decide))) (eva_cons (ev_var rfl) (eva_cons (ev_var rfl) eva_nil))) (R_drawn.mk (cell ns 5) n top (by omega) t1 tz))) ?_)
    have htl : (drawn (cell ns 4) n 4).length = n := drawn_len _ _ _
    have hkl : (drawn (cell ns 5) n top).length = n := drawn_len _ _ _
    have hrows : levelsL ns deal n = (List.range n).map (levelAt deal (drawn (cell ns 4) n 4) (drawn (cell ns 5) n top)) := by rw [htop]; rfl
    rw [hrows]
    generalize drawn (cell ns 4) n 4 = kp at htl
    generalize drawn (cell ns 5) n top = dr at hkl

    refine q_seq (s_setl (evl_repM ev_int (ev_var rfl) (by omega)) ?_)
    rw [Int.toNat_natCast]
    refine q_forE (fun xs : List Int => [.d (.scr ns), .d (eL D.int deal), .d (.int n), .d (.int top), .d (eL D.int kp), .d (eL D.int dr), .own (.lst (xs.map D.int)), .un]) (fun i xs => xs = (List.range n).map fun k => if k < i then levelAt deal kp dr k else 0) (src_rngN (eva_cons (ev_var rfl) eva_nil) (by first | omega | (simp; omega) | (simp at *; omega))) (List.replicate n 0) (by simp [List.map_const']) (hb := fun i xs hi hx => gd_name ?_) (hd := fun xs hx => ?_)
    · have hxl : xs.length = n := by rw [hx]; simp
      refine s_if (evt_and (evt_test (ev_inI (b := false) (ev_var rfl) (ev_var rfl))) (fun hc => (evt_test (ev_ob (ev_ixLM (f := D.int) (z := 0) (ev_var rfl) (ev_var rfl) (by first | omega | (simp; omega) | (simp at *; omega)) (by first | omega | (simp; omega) | (simp at *; omega))) ev_int)))) (fun hb => ?_) (fun hb => ?_)
      · refine s_seto rfl (ev_ixLM (f := D.int) (z := 0) (ev_var rfl) (ev_var rfl) (by first | omega | (simp; omega) | (simp at *; omega)) (by first | omega | (simp; omega) | (simp at *; omega))) (ev_var rfl) (ixN_ok (by first | omega | (simp; omega) | (simp at *; omega)) (by first | omega | (simp; omega) | (simp at *; omega))) ?_
        rw [map_setI]
        refine at_mk _ ?_
        rw [hx]
        refine set_range (by omega) (fun k _ hk => ?_) ?_
        · by_cases z : k < i
          · rw [if_pos z, if_pos (by omega)]
          · rw [if_neg z, if_neg (by omega)]
        · rw [if_pos (by omega)]
          unfold levelAt
          simp only [Bool.and_eq_true, decide_eq_true_eq, Int.toNat_natCast] at hb ⊢
          rw [if_pos hb]
      · refine s_next (at_mk xs ?_)
        rw [hx]
        refine List.map_congr_left fun k hk => ?_
        by_cases z : k < i
        · rw [if_pos z, if_pos (by omega)]
        · rw [if_neg z]
          by_cases z2 : k < i + 1
          · rw [if_pos z2]
            have e : k = i := by omega
            subst e
            unfold levelAt
            simp only [Bool.and_eq_false_iff, decide_eq_false_iff_not, Int.toNat_natCast] at hb
            rw [if_neg (fun z => hb.elim (fun y => y z.1) (fun y => y z.2))]
          · rw [if_neg z2]
    · rw [show xs = (List.range n).map (levelAt deal kp dr) from hx.trans (List.map_congr_left fun k hk => if_pos (List.mem_range.mp hk))]
      refine s_reto rfl ?_
      rfl
/-! ### _law_stock -/
def stockAt (lv more : List Int) (rows : List (List Int)) (whole : Int) (k : Nat) : Int :=
  if lv.getD k 0 = 0 then min 12 (max 1 ((col rows k + whole - 1) / whole) + more.getD k 0) else max 1 ((col rows k + whole - 1) / whole)
def stockL (ns lv : List Int) (rows : List (List Int)) (whole : Int) : List Int := (List.range lv.length).map (stockAt lv (drawn (cell ns 8) lv.length 2) rows whole)
inductive R_stock : List D → Rs → Prop
  | mk (ns lv : List Int) (rows : List (List Int)) (whole : Int) (hw : 0 < whole) (hl : lv.length ≤ 12) (hr : rows.length ≤ 12) (hc : ∀ r ∈ rows, r.length = lv.length) (hz : ∀ k, (col rows k + whole - 1).natAbs < 2 ^ 1000) (hz2 : whole.natAbs < 2 ^ 1000) :
      R_stock [.scr ns, eL (eL D.int) rows, eL D.int lv, .int whole] (.l ((stockL ns lv rows whole).map D.int))
theorem ok__law_stock (T : Tx K mg) : ∃ fd, FnOk pw w K mg base (L2.CX pw w) 2 (He.ga K "_law_stock") fd ["script", "rows", "levels", "whole"] (spR K R_stock) ∧ Binds K fd ["script", "rows", "levels", "whole"] [] ∧ PySem.W.keepIn K (.ref (He.ga K "_law_stock")) = true := by
  obtain ⟨fd__law_cell, F__law_cell, b__law_cell, k__law_cell⟩ := ok__law_cell (w := w) (base := base) T
  obtain ⟨fd__law_drawn, F__law_drawn, b__law_drawn, k__law_drawn⟩ := ok__law_drawn (w := w) (base := base) T
  obtain ⟨fd, FD⟩ := T.c.def_ 15 (d := d__law_stock) rfl
  have sc := sc__law_stock
  refine ⟨fd, fnR FD sc (fun ds r h => by cases h <;> rfl) fun cdv A outer s H E hr ds r hR => ⟨_, (pss_cons (ps_set (i := 4) sc.nd rfl (by first | exact Or.inl rfl | exact Or.inr rfl) (pe_callSD F__law_drawn (hr.mono (by decide)) rfl (g__law_drawn T) k__law_drawn b__law_drawn .nil (fun σ => passAt (takes_of rfl rfl rfl rfl) σ) (pa_cons (pe_callSD F__law_cell (hr.mono (by decide)) rfl (g__law_cell T) k__law_cell b__law_cell .nil (fun σ => passAt (takes_of rfl rfl rfl rfl) σ) (pa_cons (pv 0) (pa_cons pe_int pa_nil))) (pa_cons (pe_callB (call_len_seqK (K := K) rfl) rfl (f_len T) PySem.boot_len (pa_cons (pv 2) pa_nil)) (pa_cons pe_int pa_nil))))) (pss_cons (ps_set (i := 5) sc.nd rfl (by first | exact Or.inl rfl | exact Or.inr rfl) (pe_lst pa_nil)) (pss_cons (ps_for (passes_of rfl) rfl (pi_range1 rfl (f_range T) (pa_cons (pe_callB (call_len_seqK (K := K) rfl) rfl (f_len T) PySem.boot_len (pa_cons (pv 2) pa_nil)) pa_nil)) (pg_name (i := 6) sc.nd rfl (by first | exact Or.inl rfl | exact Or.inr rfl)) (pss_cons (ps_set (i := 7) sc.nd rfl (by first | exact Or.inl rfl | exact Or.inr rfl) (pe_callB (cr_sumK (K := K) rfl rfl) rfl (f_sum T) (by decide +kernel) (pa_cons (pe_lc (own := [("row", 9)]) (g := gName 9) (tt := tYes) rfl sc.nd (pi_listK (K := K) rfl (pv 1)) (blkOk_by (N := ["script", "rows", "levels", "whole", "more", "stock", "thing", "column", "least", "row"]) (sc := defScope s__law_stock) (by decide +kernel)) (fun _ _ _ _ _ => (pg_name (i := 9) sc.nd rfl (by first | exact Or.inl rfl | exact Or.inr rfl))) (fun _ _ _ _ _ => pts_nil) (fun _ _ _ _ _ => (pe_ix (ix_listK (K := K) rfl) (pv 9) (pv 6) (fun _ _ => rfl)))) pa_nil))) (pss_cons (ps_set (i := 8) sc.nd rfl (by first | exact Or.inl rfl | exact Or.inr rfl) (pe_callB (call_max2 rfl) rfl (f_max T) (by decide +kernel) (pa_cons pe_int (pa_cons (pe_op op_fdivW (pe_op op_sub (pe_op op_add (pv 7) (pv 3)) pe_int) (pv 3)) pa_nil)))) (pss_cons (ps_if (pt_cmpR op_eq (pe_ix (ix_listK (K := K) rfl) (pv 2) (pv 6) (fun _ _ => rfl)) pe_int (nomark _)) (pss_one (ps_set (i := 8) sc.nd rfl (by first | exact Or.inl rfl | exact Or.inr rfl) (pe_callB (call_min2 rfl) rfl (f_min T) (by decide +kernel) (pa_cons pe_int (pa_cons (pe_op op_add (pv 8) (pe_ix (ix_listK (K := K) rfl) (pv 4) (pv 6) (fun _ _ => rfl))) pa_nil))))) pss_nil) (pss_one (ps_expr (pe_appK (K := K) rfl (pv 5) (pa_cons (pv 8) pa_nil)))))))) (pss_one (ps_ret (pv 5)))))), ?_⟩, FD.bindsN fun _ _ _ _ _ _ us hl => match us, hl with | [_, _, _, _], _ => rfl, FD.kp⟩
  intro F xw
  cases hR with
  | mk ns lv rows whole hw hl hr hc hz hz2 =>

    refine q_seq (s_set (ev_l (evl_callX (eva_cons (ev_callX (eva_cons (ev_var rfl) (eva_cons ev_int eva_nil)) (R_cell.mk ns 8 (by decide))) (eva_cons (ev_lenM (f := D.int) (ev_var rfl)) (eva_cons ev_int eva_nil))) (R_drawn.mk (cell ns 8) lv.length 2 (by omega) (by decide) (by decide)))) ?_)
    have htl : (drawn (cell ns 8) lv.length 2).length = lv.length := drawn_len _ _ _
    have hst : stockL ns lv rows whole = (List.range lv.length).map (stockAt lv (drawn (cell ns 8) lv.length 2) rows whole) := rfl
    rw [hst]
    generalize drawn (cell ns 8) lv.length 2 = more at htl

    refine q_seq (s_setl (evl_nilM (α := Int) (f := D.int)) ?_)
    refine q_forE (fun xs : List Int => [.d (.scr ns), .d (eL (eL D.int) rows), .d (eL D.int lv), .d (.int whole), .d (eL D.int more), .own (.lst (xs.map D.int)), .un, .un, .un, .un]) (fun i xs => xs = (List.range i).map (stockAt lv more rows whole)) (src_rngN (eva_cons (ev_lenM (f := D.int) (ev_var rfl)) eva_nil) (by first | omega | (simp; omega) | (simp at *; omega))) [] rfl (hb := fun i xs hi hx => gd_name ?_) (hd := fun xs hx => ?_)
    · have hxl : xs.length = i := by rw [hx]; simp
      refine q_seq (s_set (ev_sumM (ev_l (evl_mapA (eL D.int) (fun r => .int (r.getD i 0)) (src_listM (enc := (eL D.int)) (ev_var rfl)) (by omega) (fun _ h => h) (fun x hx => gd_name ⟨evt_yes, (Ev.to (ev_ixLM (f := D.int) (z := 0) (ev_var rfl) (ev_var rfl) (by omega) (by have := hc x hx; omega)) (by first | rfl | simp))⟩)))) ?_)
      refine q_seq (s_set (ev_max2 ev_int (ev_ci (ev_oi (ev_oi (ev_var rfl) (ev_var rfl)) ev_int) (ev_var rfl) (wide_div hw hz2 (by decide) (by decide)))) ?_)
      refine q_midE (fun l : Int => [.d (.scr ns), .d (eL (eL D.int) rows), .d (eL D.int lv), .d (.int whole), .d (eL D.int more), .own (.lst (xs.map D.int)), .d (.int i), .d (.int (col rows i)), .d (.int l), .un]) (fun l => l = stockAt lv more rows whole i) ?_ ?_
      · refine s_if (evt_test (ev_eqi (ev_ixLM (f := D.int) (z := 0) (ev_var rfl) (ev_var rfl) (by first | omega | (simp; omega) | (simp at *; omega)) (by first | omega | (simp; omega) | (simp at *; omega))) ev_int)) (fun hb => ?_) (fun hb => ?_)
        · have z : lv.getD i 0 = 0 := by simpa using hb
          refine s_set (ev_min2 ev_int (ev_oi (ev_var rfl) (ev_ixLM (f := D.int) (z := 0) (ev_var rfl) (ev_var rfl) (by first | omega | (simp; omega) | (simp at *; omega)) (by first | omega | (simp; omega) | (simp at *; omega))))) ?_
          refine at_mk _ ?_
          unfold stockAt
          rw [if_pos z]
          simp only [Int.toNat_natCast]
          show _ = min 12 (max 1 ((col rows i + whole - 1) / whole) + more.getD i 0)
          have e : (List.map (fun a => a.getD i 0) rows).sum = col rows i := rfl
          rw [e]
          generalize (col rows i + whole - 1) / whole = z
          split <;> split <;> omega
        · have z : ¬ lv.getD i 0 = 0 := by simpa using hb
          refine s_next (at_mk _ ?_)
          unfold stockAt
          rw [if_neg z]
          have e : (List.map (fun a => a.getD i 0) rows).sum = col rows i := rfl
          rw [e]
          generalize (col rows i + whole - 1) / whole = z
          split <;> omega
      rintro l rfl
      refine s_app rfl (ev_var rfl) (by first | omega | (simp; omega) | (simp at *; omega)) ?_
      rw [snoc_map (f := D.int) (a := stockAt lv more rows whole i) rfl]
      refine at_mk _ ?_
      rw [hx, List.range_succ, List.map_append]
      rfl
    · subst hx
      refine s_reto rfl ?_
      rfl
/-! ### _law_moved -/
def cheapL (lv : List Int) : List Int := ((List.range lv.length).filter fun k => decide (lv.getD k 0 = 0)).map fun k : Nat => (k : Int)
def pick (ch : List Int) (v : Int) : Nat := (ch.getD (v % (ch.length : Int)).toNat 0).toNat
def moveStep (pl sh : List Int) (ch : List Int) (R : List (List Int)) (k : Nat) : List (List Int) :=
  let i := (pl.getD k 0 % (R.length : Int)).toNat
  let r := R.getD i []
  let g := pick ch (pl.getD (k + 3) 0)
  let t := pick ch (pl.getD (k + 6) 0)
  let s := sh.getD k 0 % (r.getD g 0 + 1)
  R.set i ((r.set g (r.getD g 0 - s)).set t ((r.set g (r.getD g 0 - s)).getD t 0 + s))
def movedN (pl sh : List Int) (ch : List Int) (R : List (List Int)) (m : Nat) : List (List Int) := (List.range m).foldl (moveStep pl sh ch) R
def movedL (ns lv : List Int) (R : List (List Int)) : List (List Int) := if (cheapL lv).length < 2 then R else movedN (drawn (cell ns 6) 9 60) (drawn (cell ns 7) 3 (10 ^ 39)) (cheapL lv) R 3
theorem row_at {Q : List (List Int)} {i : Nat} (h : i < Q.length) : (Q.map fun r => r.map D.int)[i]? = some ((Q.getD i []).map D.int) := by
  rw [List.getElem?_map, List.getElem?_eq_getElem h, List.getD_eq_getElem?_getD, List.getElem?_eq_getElem h]
  rfl
theorem back_set {Q : List (List Int)} {i : Nat} {x : List Int} (h : i < Q.length) : (Q.map fun r => r.map D.int).take i ++ x.map D.int :: (Q.map fun r => r.map D.int).drop (i + 1) = (Q.set i x).map fun r => r.map D.int := by
  rw [List.map_set, List.set_eq_take_append_cons_drop, if_pos (by simpa using h)]
structure Sq' (p n : Nat) (R : List (List Int)) : Prop where
  len : R.length = p
  row : ∀ r ∈ R, r.length = n ∧ ∀ e ∈ r, 0 ≤ e
theorem pick_lt {lv : List Int} {v : Int} (h : 1 ≤ (cheapL lv).length) : pick (cheapL lv) v < lv.length ∧ lv.getD (pick (cheapL lv) v) 0 = 0 ∧ (v % ((cheapL lv).length : Int)).toNat < (cheapL lv).length := by
  have h1 := Int.emod_nonneg v (show ((cheapL lv).length : Int) ≠ 0 by omega)
  have h2 := Int.emod_lt_of_pos v (show (0 : Int) < (cheapL lv).length by omega)
  have h3 : (v % ((cheapL lv).length : Int)).toNat < (cheapL lv).length := by omega
  obtain ⟨k, h4, e⟩ := List.mem_map.mp (getD_mem (z := 0) h3 : (cheapL lv).getD (v % ((cheapL lv).length : Int)).toNat 0 ∈ cheapL lv)
  obtain ⟨h5, h6⟩ := List.mem_filter.mp h4
  have e2 : pick (cheapL lv) v = k := by
    unfold pick
    rw [← e, Int.toNat_natCast]
  rw [e2]
  exact ⟨List.mem_range.mp h5, of_decide_eq_true h6, h3⟩
theorem getD_nn {l : List Int} (h : ∀ e ∈ l, 0 ≤ e) (k : Nat) : 0 ≤ l.getD k 0 := by
  rw [List.getD_eq_getElem?_getD]
  cases e : l[k]? with
  | none => exact Int.le_refl _
  | some x => exact h x (List.mem_of_getElem? e)
theorem moveStep_sq {pl sh lv : List Int} {p n : Nat} {R : List (List Int)} {k : Nat} (h : Sq' p n R) (hs : ∀ e ∈ sh, 0 ≤ e) (hp : 1 ≤ p) : Sq' p n (moveStep pl sh (cheapL lv) R k) := by
  unfold moveStep
  simp only
  refine ⟨by simp [h.len], fun r hr => ?_⟩
  rcases List.mem_or_eq_of_mem_set hr with hr | rfl
  · exact h.row r hr
  · have h1 := Int.emod_nonneg (pl.getD k 0) (show (R.length : Int) ≠ 0 by have := h.len; omega)
    have h2 := Int.emod_lt_of_pos (pl.getD k 0) (show (0 : Int) < R.length by have := h.len; omega)
    obtain ⟨h3, h4⟩ := h.row _ (getD_mem (z := []) (k := (pl.getD k 0 % (R.length : Int)).toNat) (by omega))
    generalize R.getD (pl.getD k 0 % (R.length : Int)).toNat [] = r at h3 h4
    have h5 := getD_nn h4 (pick (cheapL lv) (pl.getD (k + 3) 0))
    have h6 := Int.emod_nonneg (sh.getD k 0) (show r.getD (pick (cheapL lv) (pl.getD (k + 3) 0)) 0 + 1 ≠ 0 by omega)
    have h7 := Int.emod_lt_of_pos (sh.getD k 0) (show 0 < r.getD (pick (cheapL lv) (pl.getD (k + 3) 0)) 0 + 1 by omega)
    have h8 : ∀ e ∈ r.set (pick (cheapL lv) (pl.getD (k + 3) 0)) (r.getD (pick (cheapL lv) (pl.getD (k + 3) 0)) 0 - sh.getD k 0 % (r.getD (pick (cheapL lv) (pl.getD (k + 3) 0)) 0 + 1)), 0 ≤ e := fun e he => by
      rcases List.mem_or_eq_of_mem_set he with he | rfl
      · exact h4 e he
      · omega
    refine ⟨by simp [h3], fun e he => ?_⟩
    rcases List.mem_or_eq_of_mem_set he with he | rfl
    · exact h8 e he
    · have := getD_nn h8 (pick (cheapL lv) (pl.getD (k + 6) 0))
      omega
theorem movedN_sq {pl sh lv : List Int} {p n : Nat} {R : List (List Int)} (h : Sq' p n R) (hs : ∀ e ∈ sh, 0 ≤ e) (hp : 1 ≤ p) : ∀ m, Sq' p n (movedN pl sh (cheapL lv) R m)
  | 0 => h
  | m + 1 => by
    unfold movedN
    rw [List.range_succ, List.foldl_append]
    exact moveStep_sq (movedN_sq h hs hp m) hs hp
inductive R_mv : List D → Rs → Prop
  | mk (ns lv : List Int) (R : List (List Int)) (p : Nat) (h : Sq' p lv.length R) (hp : 1 ≤ p ∧ p ≤ 12) (hl : lv.length ≤ 12) : R_mv [.scr ns, eL (eL D.int) R, eL D.int lv] (.d (eL (eL D.int) (movedL ns lv R)))
theorem ok__law_moved (T : Tx K mg) : ∃ fd, FnOk pw w K mg base (L2.CX pw w) 2 (He.ga K "_law_moved") fd ["script", "rows", "levels"] (spR K R_mv) ∧ Binds K fd ["script", "rows", "levels"] [] ∧ PySem.W.keepIn K (.ref (He.ga K "_law_moved")) = true := by
  obtain ⟨fd__law_cell, F__law_cell, b__law_cell, k__law_cell⟩ := ok__law_cell (w := w) (base := base) T
  obtain ⟨fd__law_drawn, F__law_drawn, b__law_drawn, k__law_drawn⟩ := ok__law_drawn (w := w) (base := base) T
  obtain ⟨fd, FD⟩ := T.c.def_ 14 (d := d__law_moved) rfl
  have sc := sc__law_moved
  refine ⟨fd, fnR FD sc (fun ds r h => by cases h <;> rfl) fun cdv A outer s H E hr ds r hR => ⟨_, (pss_cons (ps_setLc (i := 3) (own := [("thing", 12)]) (g := gName 12) rfl sc.nd rfl rfl (sw_true rfl rfl rfl rfl) (pi_range1 rfl (f_range T) (pa_cons (pe_callB (call_len_seqK (K := K) rfl) rfl (f_len T) PySem.boot_len (pa_cons (pv 2) pa_nil)) pa_nil)) (blkOk_by (N := ["script", "rows", "levels", "cheap", "places", "shares", "moved", "k", "row", "given", "taken", "share", "thing"]) (sc := defScope s__law_moved) (by decide +kernel)) (fun _ _ _ _ _ => (pg_name (i := 12) sc.nd rfl (by first | exact Or.inl rfl | exact Or.inr rfl))) (fun _ _ _ _ _ => (pts_one (pt_cmpR op_eq (pe_ix (ix_listK (K := K) rfl) (pv 2) (pv 12) (fun _ _ => rfl)) pe_int (nomark _)))) (fun _ _ _ _ _ => (pv 12))) (pss_cons (ps_if (pt_cmpR op_lt (pe_callB (call_len_seqK (K := K) rfl) rfl (f_len T) PySem.boot_len (pa_cons (pv 3) pa_nil)) pe_int (nomark _)) (pss_one (ps_ret (pv 1))) pss_nil) (pss_cons (ps_set (i := 4) sc.nd rfl (by first | exact Or.inl rfl | exact Or.inr rfl) (pe_callSD F__law_drawn (hr.mono (by decide)) rfl (g__law_drawn T) k__law_drawn b__law_drawn .nil (fun σ => passAt (takes_of rfl rfl rfl rfl) σ) (pa_cons (pe_callSD F__law_cell (hr.mono (by decide)) rfl (g__law_cell T) k__law_cell b__law_cell .nil (fun σ => passAt (takes_of rfl rfl rfl rfl) σ) (pa_cons (pv 0) (pa_cons pe_int pa_nil))) (pa_cons pe_int (pa_cons pe_int pa_nil))))) (pss_cons (ps_set (i := 5) sc.nd rfl (by first | exact Or.inl rfl | exact Or.inr rfl) (pe_callSD F__law_drawn (hr.mono (by decide)) rfl (g__law_drawn T) k__law_drawn b__law_drawn .nil (fun σ => passAt (takes_of rfl rfl rfl rfl) σ) (pa_cons (pe_callSD F__law_cell (hr.mono (by decide)) rfl (g__law_cell T) k__law_cell b__law_cell .nil (fun σ => passAt (takes_of rfl rfl rfl rfl) σ) (pa_cons (pv 0) (pa_cons pe_int pa_nil))) (pa_cons pe_int (pa_cons (pe_op op_pow pe_int pe_int) pa_nil))))) (pss_cons (ps_setLc (i := 6) (own := [("row", 8)]) (g := gName 8) (tt := tYes) rfl sc.nd rfl rfl (sw_true rfl rfl rfl rfl) (pi_listK (K := K) rfl (pv 1)) (blkOk_by (N := ["script", "rows", "levels", "cheap", "places", "shares", "moved", "k", "row", "given", "taken", "share", "thing"]) (sc := defScope s__law_moved) (by decide +kernel)) (fun _ _ _ _ _ => (pg_name (i := 8) sc.nd rfl (by first | exact Or.inl rfl | exact Or.inr rfl))) (fun _ _ _ _ _ => pts_nil) (fun _ _ _ _ _ => (pe_callTy (call_list_ofK (K := K) rfl) rfl (f_list T) (by decide +kernel) (pa_cons (pv 8) pa_nil)))) (pss_cons (ps_for (passes_of rfl) rfl (pi_range1 rfl (f_range T) (pa_cons pe_int pa_nil)) (pg_name (i := 7) sc.nd rfl (by first | exact Or.inl rfl | exact Or.inr rfl)) (pss_cons (ps_set (i := 8) sc.nd rfl (by first | exact Or.inl rfl | exact Or.inr rfl) (pe_ix (ix_listK (K := K) rfl) (pv 6) (pe_op op_mod (pe_callTy call_int1 rfl (f_int T) (by decide +kernel) (pa_cons (pe_ix (ix_listK (K := K) rfl) (pv 4) (pv 7) (fun _ _ => rfl)) pa_nil)) (pe_callB (call_len_seqK (K := K) rfl) rfl (f_len T) PySem.boot_len (pa_cons (pv 1) pa_nil))) (fun _ _ => rfl))) (pss_cons (ps_set (i := 9) sc.nd rfl (by first | exact Or.inl rfl | exact Or.inr rfl) (pe_ix (ix_listK (K := K) rfl) (pv 3) (pe_op op_mod (pe_callTy call_int1 rfl (f_int T) (by decide +kernel) (pa_cons (pe_ix (ix_listK (K := K) rfl) (pv 4) (pe_op op_add (pv 7) pe_int) (fun _ _ => rfl)) pa_nil)) (pe_callB (call_len_seqK (K := K) rfl) rfl (f_len T) PySem.boot_len (pa_cons (pv 3) pa_nil))) (fun _ _ => rfl))) (pss_cons (ps_set (i := 10) sc.nd rfl (by first | exact Or.inl rfl | exact Or.inr rfl) (pe_ix (ix_listK (K := K) rfl) (pv 3) (pe_op op_mod (pe_callTy call_int1 rfl (f_int T) (by decide +kernel) (pa_cons (pe_ix (ix_listK (K := K) rfl) (pv 4) (pe_op op_add (pv 7) pe_int) (fun _ _ => rfl)) pa_nil)) (pe_callB (call_len_seqK (K := K) rfl) rfl (f_len T) PySem.boot_len (pa_cons (pv 3) pa_nil))) (fun _ _ => rfl))) (pss_cons (ps_set (i := 11) sc.nd rfl (by first | exact Or.inl rfl | exact Or.inr rfl) (pe_op op_mod (pe_callTy call_int1 rfl (f_int T) (by decide +kernel) (pa_cons (pe_ix (ix_listK (K := K) rfl) (pv 5) (pv 7) (fun _ _ => rfl)) pa_nil)) (pe_op op_add (pe_ix (ix_listK (K := K) rfl) (pv 8) (pv 9) (fun _ _ => rfl)) pe_int))) (pss_cons (ps_asg (pe_op op_sub (pe_ix (ix_listK (K := K) rfl) (pv 8) (pv 9) (fun _ _ => rfl)) (pv 11)) (pg_sub (pv 8) (pv 9) set_list)) (pss_one (ps_asg (pe_op op_add (pe_ix (ix_listK (K := K) rfl) (pv 8) (pv 10) (fun _ _ => rfl)) (pv 11)) (pg_sub (pv 8) (pv 10) set_list))))))))) (pss_one (ps_ret (pv 6))))))))), ?_⟩, FD.bindsN fun _ _ _ _ _ _ us hl => match us, hl with | [_, _, _], _ => rfl, FD.kp⟩
  intro F xw
  cases hR with
  | mk ns lv R p h hp hl =>

    refine q_seq (s_set (ev_l (evl_lc (fun k => decide (lv.getD (k : Int).toNat 0 = 0)) (fun k => .int k) (src_rngN (eva_cons (ev_lenM (f := D.int) (ev_var rfl)) eva_nil) (by first | omega | (simp; omega) | (simp at *; omega))) (by first | omega | (simp; omega) | (simp at *; omega)) (fun _ h => h) (fun i hi => gd_name ⟨(evt_test (ev_eqi (ev_ixLM (f := D.int) (z := 0) (ev_var rfl) (ev_var rfl) (by first | omega | (simp; omega) | (simp at *; omega)) (by first | omega | (simp; omega) | (simp at *; omega))) ev_int)), fun hp => (Ev.to (ev_var rfl) (by first | rfl | simp))⟩))) ?_)
    have hch : ((List.range lv.length).filter fun k : Nat => decide (lv.getD (k : Int).toNat 0 = 0)).map (fun k : Nat => D.int k) = (cheapL lv).map D.int := by
      unfold cheapL
      rw [List.map_map]
      rfl
    rw [hch]
    have hcl : (cheapL lv).length ≤ lv.length := by
      unfold cheapL
      have := List.length_filter_le (fun k => decide (lv.getD k 0 = 0)) (List.range lv.length)
      rwa [List.length_range, ← List.length_map (f := fun k : Nat => (k : Int))] at this
    refine q_seq (s_if (evt_test (ev_ob (ev_lenM (f := D.int) (ev_var rfl)) ev_int)) (fun hb => ?_) (fun hb => ?_))
    · have z : (cheapL lv).length < 2 := by
        have := of_decide_eq_true hb
        omega
      have e : movedL ns lv R = R := if_pos z
      rw [e]
      refine s_ret (ev_var rfl) ?_
      rfl
    refine s_next ?_
    have z : ¬ (cheapL lv).length < 2 := by
      have := of_decide_eq_false hb
      omega
    have e : movedL ns lv R = _ := if_neg z
    rw [e]
    refine q_seq (s_set (ev_l (evl_callX (eva_cons (ev_callX (eva_cons (ev_var rfl) (eva_cons ev_int eva_nil)) (R_cell.mk ns 6 (by decide))) (eva_cons ev_int (eva_cons ev_int eva_nil))) (R_drawn.mk (cell ns 6) 9 60 (by decide) (by decide) (by decide)))) ?_)
    refine q_seq (s_set (ev_l (evl_callX (eva_cons (ev_callX (eva_cons (ev_var rfl) (eva_cons ev_int eva_nil)) (R_cell.mk ns 7 (by decide))) (eva_cons ev_int (eva_cons (ev_ci ev_int ev_int ⟨by decide, by decide, by decide⟩) eva_nil))) (R_drawn.mk (cell ns 7) 3 (10 ^ 39) (by decide) (by decide) (by decide)))) ?_)
    have htl : (drawn (cell ns 6) 9 60).length = 9 := drawn_len _ _ _
    have hkl : (drawn (cell ns 7) 3 (10 ^ 39)).length = 3 := drawn_len _ _ _
    have hnn : ∀ e ∈ drawn (cell ns 7) 3 (10 ^ 39), 0 ≤ e := fun e he => (drawn_in (cell ns 7) (10 ^ 39) (by decide) 3 e he).1
    have hub : ∀ e ∈ drawn (cell ns 7) 3 (10 ^ 39), e < 10 ^ 39 := fun e he => (drawn_in (cell ns 7) (10 ^ 39) (by decide) 3 e he).2
    generalize drawn (cell ns 6) 9 60 = pl at htl
    generalize drawn (cell ns 7) 3 (10 ^ 39) = sh at hkl hnn hub

    refine q_seq (s_setll (evll_mapA (eL D.int) (fun r => r.map D.int) (src_listM (enc := (eL D.int)) (ev_var rfl)) (by have := h.len; omega) (fun _ h => h) (fun x hx => gd_name ⟨evt_yes, (Evl.to (evl_ofL (ev_var rfl)) (by first | rfl | simp))⟩)) ?_)
    have hR0 : (R.map fun r => r.map D.int) = (movedN pl sh (cheapL lv) R 0).map fun r => r.map D.int := rfl
    rw [hR0]
    refine q_forE (fun Q : List (List Int) => [.d (.scr ns), .d (eL (eL D.int) R), .d (eL D.int lv), .d (eL D.int (cheapL lv)), .d (eL D.int pl), .d (eL D.int sh), .ll (Q.map fun r => r.map D.int), .un, .un, .un, .un, .un, .un]) (fun m Q => Q = movedN pl sh (cheapL lv) R m) (src_rngN (n := 3) (eva_cons ev_int eva_nil) (by decide)) (movedN pl sh (cheapL lv) R 0) rfl (hb := fun m Q hm hQ => gd_name ?_) (hd := fun Q hQ => ?_)
    · have SQ : Sq' p lv.length Q := by rw [hQ]; exact movedN_sq h hnn hp.1 m
      have hlen := SQ.len
      have hRl := h.len
      have i1 := Int.emod_nonneg (pl.getD m 0) (show (R.length : Int) ≠ 0 by omega)
      have i2 := Int.emod_lt_of_pos (pl.getD m 0) (show (0 : Int) < R.length by omega)
      obtain ⟨ii, hii⟩ : ∃ ii : Nat, (pl.getD m 0 % (R.length : Int)).toNat = ii := ⟨_, rfl⟩
      have hil : ii < Q.length := by omega
      obtain ⟨r1, r2⟩ := SQ.row _ (getD_mem (z := []) hil)
      have hstep : movedN pl sh (cheapL lv) R (m + 1) = moveStep pl sh (cheapL lv) Q m := by
        rw [hQ]
        unfold movedN
        rw [List.range_succ, List.foldl_append]
        rfl
      refine q_seq (s_lend (x := (Q.getD ii []).map D.int) (n := ii) rfl (ev_ci (ev_int1 (ev_ixLM (f := D.int) (z := 0) (ev_var rfl) (ev_var rfl) (by first | omega | (simp; omega) | (simp at *; omega)) (by first | omega | (simp; omega) | (simp at *; omega)))) (ev_lenM (f := (eL D.int)) (ev_var rfl)) (by omega)) ((ixN_ok (by simp only [Int.toNat_natCast]; omega) (by simp only [Int.toNat_natCast, List.length_map]; omega)).trans (congrArg some (by rw [← hii]; rfl))) (row_at hil) (by decide) fun b => ?_)
      obtain ⟨g1, g2, g3⟩ := pick_lt (lv := lv) (v := pl.getD (m + 3) 0) (by omega)
      obtain ⟨u1, u2, u3⟩ := pick_lt (lv := lv) (v := pl.getD (m + 6) 0) (by omega)
      have hgm := Int.emod_nonneg (pl.getD (m + 3) 0) (show ((cheapL lv).length : Int) ≠ 0 by omega)
      have hum := Int.emod_nonneg (pl.getD (m + 6) 0) (show ((cheapL lv).length : Int) ≠ 0 by omega)
      have k3 : ((m : Int) + 3).toNat = m + 3 := by omega
      have k6 : ((m : Int) + 6).toNat = m + 6 := by omega
      have cp : ∀ e ∈ cheapL lv, 0 ≤ e := fun e he => by
        obtain ⟨k, _, rfl⟩ := List.mem_map.mp he
        omega
      refine q_seq (s_set (ev_ixLM (f := D.int) (z := 0) (ev_var rfl) (ev_ci (ev_int1 (ev_ixLM (f := D.int) (z := 0) (ev_var rfl) (ev_oi (ev_var rfl) ev_int) (by omega) (by omega))) (ev_lenM (f := D.int) (ev_var rfl)) (by omega)) (by rw [k3]; exact hgm) (by rw [k3]; omega)) ?_)
      refine q_seq (s_set (ev_ixLM (f := D.int) (z := 0) (ev_var rfl) (ev_ci (ev_int1 (ev_ixLM (f := D.int) (z := 0) (ev_var rfl) (ev_oi (ev_var rfl) ev_int) (by omega) (by omega))) (ev_lenM (f := D.int) (ev_var rfl)) (by omega)) (by rw [k6]; exact hum) (by rw [k6]; omega)) ?_)
      rw [k3, k6]
      have c1 := getD_nn cp (pl.getD (m + 3) 0 % ((cheapL lv).length : Int)).toNat
      have c2 := getD_nn cp (pl.getD (m + 6) 0 % ((cheapL lv).length : Int)).toNat
      have e1 : (cheapL lv).getD (pl.getD (m + 3) 0 % ((cheapL lv).length : Int)).toNat 0 = (pick (cheapL lv) (pl.getD (m + 3) 0) : Nat) := by unfold pick; omega
      have e2 : (cheapL lv).getD (pl.getD (m + 6) 0 % ((cheapL lv).length : Int)).toNat 0 = (pick (cheapL lv) (pl.getD (m + 6) 0) : Nat) := by unfold pick; omega
      rw [e1, e2]
      unfold moveStep at hstep
      simp only [hii] at hstep
      have hlen2 : (pl.getD m 0 % (Q.length : Int)).toNat = ii := by rw [hlen, ← hRl]; exact hii
      rw [hlen2] at hstep
      generalize pick (cheapL lv) (pl.getD (m + 3) 0) = gi at g1 hstep ⊢
      generalize pick (cheapL lv) (pl.getD (m + 6) 0) = ti at u1 hstep ⊢

      have sp := getD_nn hnn m
      generalize Q.getD ii [] = r at r1 r2 hstep ⊢
      have rp := getD_nn r2 gi
      refine q_seq (s_set (ev_rd (by first | rfl | exact pures_int _ | exact pures_bl _ | decide) (ev_ci (ev_int1 (ev_ixLM (f := D.int) (z := 0) (ev_var rfl) (ev_var rfl) (by first | omega | (simp; omega) | (simp at *; omega)) (by first | omega | (simp; omega) | (simp at *; omega)))) (ev_oi (ev_ixLM (f := D.int) (z := 0) (ev_var rfl) (ev_var rfl) (by first | omega | (simp; omega) | (simp at *; omega)) (by first | omega | (simp; omega) | (simp at *; omega))) ev_int) (by simp only [Int.toNat_natCast]; omega))) ?_)
      simp only [Int.toNat_natCast]
      have s0 := Int.emod_nonneg (sh.getD m 0) (show r.getD gi 0 + 1 ≠ 0 by omega)
      generalize sh.getD m 0 % (r.getD gi 0 + 1) = si at s0 hstep ⊢
      refine q_seq (s_setq rfl (ev_rd (by first | rfl | exact pures_int _ | exact pures_bl _ | decide) (ev_oi (ev_ixLM (f := D.int) (z := 0) (ev_var rfl) (ev_var rfl) (by first | omega | (simp; omega) | (simp at *; omega)) (by first | omega | (simp; omega) | (simp at *; omega))) (ev_var rfl))) (ev_var rfl) (ixN_ok (by omega) (by simp only [List.length_map]; omega)) ?_)
      simp only [Int.toNat_natCast]
      rw [map_setI]
      have hl2 : (r.set gi (r.getD gi 0 - si)).length = lv.length := by rw [List.length_set, r1]
      generalize r.set gi (r.getD gi 0 - si) = r' at hl2 hstep ⊢
      refine s_setBack (j := 6) rfl rfl (by decide) (ev_rd (by first | rfl | exact pures_int _ | exact pures_bl _ | decide) (ev_oi (ev_ixLM (f := D.int) (z := 0) (ev_var rfl) (ev_var rfl) (by first | omega | (simp; omega) | (simp at *; omega)) (by first | omega | (simp; omega) | (simp at *; omega))) (ev_var rfl))) (ev_var rfl) (ixN_ok (by omega) (by simp only [List.length_map]; omega)) ?_
      simp only [Int.toNat_natCast]
      rw [map_setI, back_set hil, ← hstep]
      exact at_mk _ rfl
    · subst hQ
      refine s_rd ?_

      refine s_ret (ev_var rfl) ?_
      rw [List.map_map]
      rfl
end
end G17
set_option Elab.async false
set_option linter.all false
set_option maxRecDepth 100000
set_option maxHeartbeats 4000000
set_option exponentiation.threshold 2000
namespace G17
open PySem PySem.Spec PyProof.Rows L2 L3
section
variable {w : World} {K : PySem.W.Frag} {mg : Str → Option Value} {base : Heap}
/-! ### _law_ranks -/
def above (lv : List Int) (k : Nat) : List Int := lv.filter fun x => decide (lv.getD k 0 < x)
def rankAt (lv row later : List Int) (k : Nat) : Int := if row.getD k 0 = 0 then 2 * ((dst (above lv k)).length : Int) + later.getD k 0 else 2 * ((dst (above lv k)).length : Int)
def ranksL (ns lv row : List Int) (i : Nat) : List Int := (List.range lv.length).map (rankAt lv row (drawn (cell ns (16 + i)) lv.length 4))
inductive R_rks : List D → Rs → Prop
  | mk (ns lv row : List Int) (i : Nat) (hi : i ≤ 12) (hr : row.length = lv.length) (hl : lv.length ≤ 12) : R_rks [.scr ns, .int i, eL D.int row, eL D.int lv] (.l ((ranksL ns lv row i).map D.int))
theorem ok__law_ranks (T : Tx K mg) : ∃ fd, FnOk pw w K mg base (L2.CX pw w) 2 (He.ga K "_law_ranks") fd ["script", "person", "row", "levels"] (spR K R_rks) ∧ Binds K fd ["script", "person", "row", "levels"] [] ∧ PySem.W.keepIn K (.ref (He.ga K "_law_ranks")) = true := by
  obtain ⟨fd__law_cell, F__law_cell, b__law_cell, k__law_cell⟩ := ok__law_cell (w := w) (base := base) T
  obtain ⟨fd__law_drawn, F__law_drawn, b__law_drawn, k__law_drawn⟩ := ok__law_drawn (w := w) (base := base) T
  obtain ⟨fd, FD⟩ := T.c.def_ 16 (d := d__law_ranks) rfl
  have sc := sc__law_ranks
  refine ⟨fd, fnR FD sc (fun ds r h => by cases h <;> rfl) fun cdv A outer s H E hr ds r hR => ⟨_, (pss_cons (ps_set (i := 4) sc.nd rfl (by first | exact Or.inl rfl | exact Or.inr rfl) (pe_callSD F__law_drawn (hr.mono (by decide)) rfl (g__law_drawn T) k__law_drawn b__law_drawn .nil (fun σ => passAt (takes_of rfl rfl rfl rfl) σ) (pa_cons (pe_callSD F__law_cell (hr.mono (by decide)) rfl (g__law_cell T) k__law_cell b__law_cell .nil (fun σ => passAt (takes_of rfl rfl rfl rfl) σ) (pa_cons (pv 0) (pa_cons (pe_op op_add pe_int (pv 1)) pa_nil))) (pa_cons (pe_callB (call_len_seqK (K := K) rfl) rfl (f_len T) PySem.boot_len (pa_cons (pv 3) pa_nil)) (pa_cons pe_int pa_nil))))) (pss_cons (ps_set (i := 5) sc.nd rfl (by first | exact Or.inl rfl | exact Or.inr rfl) (pe_lst pa_nil)) (pss_cons (ps_for (passes_of rfl) rfl (pi_range1 rfl (f_range T) (pa_cons (pe_callB (call_len_seqK (K := K) rfl) rfl (f_len T) PySem.boot_len (pa_cons (pv 3) pa_nil)) pa_nil)) (pg_name (i := 6) sc.nd rfl (by first | exact Or.inl rfl | exact Or.inr rfl)) (pss_cons (ps_set (i := 7) sc.nd rfl (by first | exact Or.inl rfl | exact Or.inr rfl) (pe_op op_mulW pe_int (pe_lenDst (K := K) rfl rfl (f_len T) rfl (f_set T) (pe_lc (own := [("level", 8)]) (g := gName 8) rfl sc.nd (pi_listK (K := K) rfl (pv 3)) (blkOk_by (N := ["script", "person", "row", "levels", "later", "ranks", "thing", "rank", "level"]) (sc := defScope s__law_ranks) (by decide +kernel)) (fun _ _ _ _ _ => (pg_name (i := 8) sc.nd rfl (by first | exact Or.inl rfl | exact Or.inr rfl))) (fun _ _ _ _ _ => (pts_one (pt_cmpR op_gt (pv 8) (pe_ix (ix_listK (K := K) rfl) (pv 3) (pv 6) (fun _ _ => rfl)) (nomark _)))) (fun _ _ _ _ _ => (pv 8)))))) (pss_cons (ps_if (pt_cmpR op_eq (pe_ix (ix_listK (K := K) rfl) (pv 2) (pv 6) (fun _ _ => rfl)) pe_int (nomark _)) (pss_one (ps_set (i := 7) sc.nd rfl (by first | exact Or.inl rfl | exact Or.inr rfl) (pe_op op_add (pv 7) (pe_ix (ix_listK (K := K) rfl) (pv 4) (pv 6) (fun _ _ => rfl))))) pss_nil) (pss_one (ps_expr (pe_appK (K := K) rfl (pv 5) (pa_cons (pv 7) pa_nil))))))) (pss_one (ps_ret (pv 5)))))), ?_⟩, FD.bindsN fun _ _ _ _ _ _ us hl => match us, hl with | [_, _, _, _], _ => rfl, FD.kp⟩
  intro F xw
  cases hR with
  | mk ns lv row i hi hr hl =>

    refine q_seq (s_set (ev_l (evl_callX (eva_cons (ev_callX (eva_cons (ev_var rfl) (eva_cons (ev_oi ev_int (ev_var rfl)) eva_nil)) (R_cell.mk ns (16 + i) (by omega))) (eva_cons (ev_lenM (f := D.int) (ev_var rfl)) (eva_cons ev_int eva_nil))) (R_drawn.mk (cell ns (16 + i)) lv.length 4 (by omega) (by decide) (by decide)))) ?_)
    have htl : (drawn (cell ns (16 + i)) lv.length 4).length = lv.length := drawn_len _ _ _
    have hst : ranksL ns lv row i = (List.range lv.length).map (rankAt lv row (drawn (cell ns (16 + i)) lv.length 4)) := rfl
    rw [hst]
    generalize drawn (cell ns (16 + i)) lv.length 4 = later at htl ⊢

    refine q_seq (s_setl (evl_nilM (α := Int) (f := D.int)) ?_)
    refine q_forE (fun xs : List Int => [.d (.scr ns), .d (.int i), .d (eL D.int row), .d (eL D.int lv), .d (eL D.int later), .own (.lst (xs.map D.int)), .un, .un, .un]) (fun k xs => xs = (List.range k).map (rankAt lv row later)) (src_rngN (eva_cons (ev_lenM (f := D.int) (ev_var rfl)) eva_nil) (by first | omega | (simp; omega) | (simp at *; omega))) [] rfl (hb := fun k xs hk hx => gd_name ?_) (hd := fun xs hx => ?_)
    · have hxl : xs.length = k := by rw [hx]; simp
      have hfl := List.length_filter_le (fun x => decide (lv.getD k 0 < x)) lv
      refine q_seq (s_set (ev_ci ev_int (ev_lenDst (ev_l (evl_filA D.int (fun x => .int x) (fun x => decide (lv.getD (k : Int).toNat 0 < x)) (src_listM (enc := D.int) (ev_var rfl)) (by first | omega | (simp; omega) | (simp at *; omega)) (fun _ h => h) (fun x hx => gd_name ⟨(evt_test (ev_ob (ev_var rfl) (ev_ixLM (f := D.int) (z := 0) (ev_var rfl) (ev_var rfl) (by first | omega | (simp; omega) | (simp at *; omega)) (by first | omega | (simp; omega) | (simp at *; omega))))), fun hp => (Ev.to (ev_var rfl) (by first | rfl | simp))⟩))) (by first | omega | (simp; omega) | (simp at *; omega))) (wide_mul (a := 2) (b := 20) (by decide) (by have h1 := dst_le (above lv k); have h2 : (above lv k).length ≤ lv.length := hfl; show ((dst (above lv k)).length : Int).natAbs < 2 ^ 20; omega) (by decide) (by decide) (by decide))) ?_)
      rw [show lv.filter (fun x => decide (lv.getD (k : Int).toNat 0 < x)) = above lv k from rfl]
      refine q_midE (fun r : Int => [.d (.scr ns), .d (.int i), .d (eL D.int row), .d (eL D.int lv), .d (eL D.int later), .own (.lst (xs.map D.int)), .d (.int k), .d (.int r), .un]) (fun r => r = rankAt lv row later k) ?_ ?_
      · refine s_if (evt_test (ev_eqi (ev_ixLM (f := D.int) (z := 0) (ev_var rfl) (ev_var rfl) (by first | omega | (simp; omega) | (simp at *; omega)) (by first | omega | (simp; omega) | (simp at *; omega))) ev_int)) (fun hb => ?_) (fun hb => ?_)
        · have z : row.getD k 0 = 0 := by simpa using hb
          refine s_set (ev_oi (ev_var rfl) (ev_ixLM (f := D.int) (z := 0) (ev_var rfl) (ev_var rfl) (by first | omega | (simp; omega) | (simp at *; omega)) (by first | omega | (simp; omega) | (simp at *; omega)))) ?_
          refine at_mk _ ?_
          unfold rankAt
          rw [if_pos z, Int.toNat_natCast]
        · have z : ¬ row.getD k 0 = 0 := by simpa using hb
          refine s_next (at_mk _ ?_)
          unfold rankAt
          rw [if_neg z]
      rintro r rfl
      refine s_app rfl (ev_var rfl) (by first | omega | (simp; omega) | (simp at *; omega)) ?_
      rw [snoc_map (f := D.int) (a := rankAt lv row later k) rfl]
      refine at_mk _ ?_
      rw [hx, List.range_succ, List.map_append]
      rfl
    · subst hx
      refine s_reto rfl ?_
      rfl
/-! ### _law_order -/
def grp (rk : List Int) (r : Nat) : List Int := ((List.range rk.length).filter fun k => decide (rk.getD k 0 = r)).map fun k : Nat => (k : Int)
def mxI (rk : List Int) : Int := maxI 0 rk
def orderTo (rk : List Int) (m : Nat) : List (List Int) := ((List.range m).map (grp rk)).filter fun g => decide (0 < g.length)
def orderL (rk : List Int) : List (List Int) := orderTo rk (maxI 0 rk + 1).toNat
inductive R_ord : List D → Rs → Prop
  | mk (rk : List Int) (h1 : 1 ≤ rk.length ∧ rk.length ≤ 12) (h2 : ∀ e ∈ rk, 0 ≤ e ∧ e ≤ 100) (hm : 0 ≤ maxI 0 rk ∧ maxI 0 rk ≤ 100) : R_ord [eL D.int rk] (.l ((orderL rk).map (eL D.int)))
theorem ok__law_order (T : Tx K mg) : ∃ fd, FnOk pw w K mg base (L2.CX pw w) 1 (He.ga K "_law_order") fd ["ranks"] (spR K R_ord) ∧ Binds K fd ["ranks"] [] ∧ PySem.W.keepIn K (.ref (He.ga K "_law_order")) = true := by
  obtain ⟨fd, FD⟩ := T.c.def_ 17 (d := d__law_order) rfl
  have sc := sc__law_order
  refine ⟨fd, fnR FD sc (fun ds r h => by cases h <;> rfl) fun cdv A outer s H E hr ds r hR => ⟨_, (pss_cons (ps_set (i := 1) sc.nd rfl (by first | exact Or.inl rfl | exact Or.inr rfl) (pe_lst pa_nil)) (pss_cons (ps_for (passes_of rfl) rfl (pi_range1 rfl (f_range T) (pa_cons (pe_op op_add (pe_callB (cr_maxQ (b := false) (K := K) rfl rfl hr.units) rfl (f_max T) (by decide +kernel) (pa_cons (pv 0) pa_nil)) pe_int) pa_nil)) (pg_name (i := 2) sc.nd rfl (by first | exact Or.inl rfl | exact Or.inr rfl)) (pss_cons (ps_setLc (i := 3) (own := [("thing", 4)]) (g := gName 4) rfl sc.nd rfl rfl (sw_true rfl rfl rfl rfl) (pi_range1 rfl (f_range T) (pa_cons (pe_callB (call_len_seqK (K := K) rfl) rfl (f_len T) PySem.boot_len (pa_cons (pv 0) pa_nil)) pa_nil)) (blkOk_by (N := ["ranks", "order", "rank", "group", "thing"]) (sc := defScope s__law_order) (by decide +kernel)) (fun _ _ _ _ _ => (pg_name (i := 4) sc.nd rfl (by first | exact Or.inl rfl | exact Or.inr rfl))) (fun _ _ _ _ _ => (pts_one (pt_cmpR op_eq (pe_ix (ix_listK (K := K) rfl) (pv 0) (pv 4) (fun _ _ => rfl)) (pv 2) (nomark _)))) (fun _ _ _ _ _ => (pv 4))) (pss_one (ps_if (pt_cmpR op_gt (pe_callB (call_len_seqK (K := K) rfl) rfl (f_len T) PySem.boot_len (pa_cons (pv 3) pa_nil)) pe_int (nomark _)) (pss_one (ps_expr (pe_appK (K := K) rfl (pv 1) (pa_cons (pv 3) pa_nil)))) pss_nil)))) (pss_one (ps_ret (pv 1))))), ?_⟩, FD.bindsN fun _ _ _ _ _ _ us hl => match us, hl with | [_], _ => rfl, FD.kp⟩
  intro F xw
  cases hR with
  | mk rk h1 h2 hm =>

    refine q_seq (s_setl (evl_nilM (α := Int) (f := D.int)) ?_)
    unfold orderL
    obtain ⟨mm, hmm⟩ := Int.eq_ofNat_of_zero_le hm.1
    cases rk with
    | nil => simp at h1
    | cons r0 rs =>
      rw [hmm]
      rw [show ((mm : Int) + 1).toNat = mm + 1 by omega]
      refine q_forE (fun xs : List (List Int) => [.d (eL D.int (r0 :: rs)), .own (.lst (xs.map (eL D.int))), .un, .un, .un]) (fun m xs => xs = orderTo (r0 :: rs) m ∧ xs.length ≤ m) (src_rngN (n := mm + 1) (eva_cons ((ev_oi (ev_maxQ (b := false) (n := r0) (ns := rs) (ev_var rfl)) ev_int).to (by rw [hmm]; push_cast; rfl)) eva_nil) (by omega)) [] ⟨rfl, by simp⟩ (hb := fun m xs hm2 hx => gd_name ?_) (hd := fun xs hx => ?_)
      · have hlen : (r0 :: rs).length ≤ 12 := h1.2
        generalize r0 :: rs = rk at hx hlen
        refine q_seq (s_set (ev_l (evl_lc (fun k => decide (rk.getD (k : Int).toNat 0 = (m : Int))) (fun k => .int k) (src_rngN (eva_cons (ev_lenM (f := D.int) (ev_var rfl)) eva_nil) (by first | omega | (simp; omega) | (simp at *; omega))) (by first | omega | (simp; omega) | (simp at *; omega)) (fun _ h => h) (fun i hi => gd_name ⟨(evt_test (ev_eqi (ev_ixLM (f := D.int) (z := 0) (ev_var rfl) (ev_var rfl) (by first | omega | (simp; omega) | (simp at *; omega)) (by first | omega | (simp; omega) | (simp at *; omega))) (ev_var rfl))), fun hp => (Ev.to (ev_var rfl) (by first | rfl | simp))⟩))) ?_)
        have hch : ((List.range rk.length).filter fun k : Nat => decide (rk.getD (k : Int).toNat 0 = (m : Int))).map (fun k : Nat => D.int k) = (grp rk m).map D.int := by
          unfold grp
          rw [List.map_map]
          rfl
        rw [hch]
        have hnext : orderTo rk (m + 1) = if 0 < (grp rk m).length then orderTo rk m ++ [grp rk m] else orderTo rk m := by
          unfold orderTo
          rw [List.range_succ, List.map_append, List.filter_append]
          by_cases z : 0 < (grp rk m).length <;> simp [z]
        refine s_if (evt_test (ev_ob (ev_lenM (f := D.int) (ev_var rfl)) ev_int)) (fun hb => ?_) (fun hb => ?_)
        · have z : 0 < (grp rk m).length := by
            have := of_decide_eq_true hb
            omega
          refine s_app rfl (ev_var rfl) (by have := hx.2; rw [List.length_map]; omega) ?_
          rw [snoc_map (f := eL D.int) (a := grp rk m) rfl]
          refine at_mk (xs ++ [grp rk m]) ⟨?_, by have := hx.2; simp; omega⟩
          rw [hnext, if_pos z, hx.1]
        · have z : ¬ 0 < (grp rk m).length := by
            have := of_decide_eq_false hb
            omega
          refine s_next (at_mk xs ⟨?_, by have := hx.2; omega⟩)
          rw [hnext, if_neg z, hx.1]
      · rw [hx.1]
        refine s_reto rfl ?_
        rfl
/-! ### _law_agrees -/
inductive R_lag : List D → Rs → Prop
  | mk (rk row lv : List Int) (hr : rk.length = row.length) (hl : lv.length = row.length) (hn : row.length ≤ 1000) : R_lag [eL D.int rk, eL D.int row, eL D.int lv] (.d (.bl (decide (Agr row.length rk row lv))))
theorem ok__law_agrees (T : Tx K mg) : ∃ fd, FnOk pw w K mg base (L2.CX pw w) 1 (He.ga K "_law_agrees") fd ["ranks", "row", "levels"] (spR K R_lag) ∧ Binds K fd ["ranks", "row", "levels"] [] ∧ PySem.W.keepIn K (.ref (He.ga K "_law_agrees")) = true := by
  obtain ⟨fd, FD⟩ := T.c.def_ 18 (d := d__law_agrees) rfl
  have sc := sc__law_agrees
  refine ⟨fd, fnR FD sc (fun ds r h => by cases h <;> rfl) fun cdv A outer s H E hr ds r hR => ⟨_, (pss_cons (ps_for (passes_of rfl) rfl (pi_range1 rfl (f_range T) (pa_cons (pe_callB (call_len_seqK (K := K) rfl) rfl (f_len T) PySem.boot_len (pa_cons (pv 1) pa_nil)) pa_nil)) (pg_name (i := 3) sc.nd rfl (by first | exact Or.inl rfl | exact Or.inr rfl)) (pss_one (ps_if (pt_cmpR op_gt (pe_ix (ix_listK (K := K) rfl) (pv 1) (pv 3) (fun _ _ => rfl)) pe_int (nomark _)) (pss_one (ps_for (passes_of rfl) rfl (pi_range1 rfl (f_range T) (pa_cons (pe_callB (call_len_seqK (K := K) rfl) rfl (f_len T) PySem.boot_len (pa_cons (pv 1) pa_nil)) pa_nil)) (pg_name (i := 4) sc.nd rfl (by first | exact Or.inl rfl | exact Or.inr rfl)) (pss_cons (ps_if (PW.pt (pw_and (pt_cmpR op_lt (pe_ix (ix_listK (K := K) rfl) (pv 0) (pv 4) (fun _ _ => rfl)) (pe_ix (ix_listK (K := K) rfl) (pv 0) (pv 3) (fun _ _ => rfl)) (nomark _)) (pw_and1 (pt_cmpR op_le (pe_ix (ix_listK (K := K) rfl) (pv 2) (pv 4) (fun _ _ => rfl)) (pe_ix (ix_listK (K := K) rfl) (pv 2) (pv 3) (fun _ _ => rfl)) (nomark _))))) (pss_one (ps_ret pe_bl)) pss_nil) (pss_one (ps_if (PW.pt (pw_and (pt_cmpR op_eq (pe_ix (ix_listK (K := K) rfl) (pv 0) (pv 4) (fun _ _ => rfl)) (pe_ix (ix_listK (K := K) rfl) (pv 0) (pv 3) (fun _ _ => rfl)) (nomark _)) (pw_and1 (pt_cmpR op_lt (pe_ix (ix_listK (K := K) rfl) (pv 2) (pv 4) (fun _ _ => rfl)) (pe_ix (ix_listK (K := K) rfl) (pv 2) (pv 3) (fun _ _ => rfl)) (nomark _))))) (pss_one (ps_ret pe_bl)) pss_nil))))) pss_nil))) (pss_one (ps_ret pe_bl))), ?_⟩, FD.bindsN fun _ _ _ _ _ _ us hl => match us, hl with | [_, _, _], _ => rfl, FD.kp⟩
  intro F xw
  cases hR with
  | mk rk row lv hr hl hn =>
    refine q_forE (fun _ : Unit => [.d (eL D.int rk), .d (eL D.int row), .d (eL D.int lv), .un, .un]) (fun j _ => ∀ h, h < j → AgH row.length rk row lv h) (src_rngN (eva_cons (ev_lenM (f := D.int) (ev_var rfl)) eva_nil) (by first | omega | (simp; omega) | (simp at *; omega))) () (fun h hh => absurd hh (Nat.not_lt_zero h)) (hb := fun j _ hj hI => gd_name ?_) (hd := fun _ hI => ?_)
    · refine s_if (evt_test (ev_ob (ev_ixLM (f := D.int) (z := 0) (ev_var rfl) (ev_var rfl) (by first | omega | (simp; omega) | (simp at *; omega)) (by first | omega | (simp; omega) | (simp at *; omega))) ev_int)) (fun hb => ?_) (fun hb => ?_)
      · have hb' : 0 < row.getD j 0 := of_decide_eq_true hb
        refine s_forE (fun _ : Unit => [.d (eL D.int rk), .d (eL D.int row), .d (eL D.int lv), .d (.int j), .un]) (fun k _ => ∀ o, o < k → AgO rk lv j o) (src_rngN (eva_cons (ev_lenM (f := D.int) (ev_var rfl)) eva_nil) (by first | omega | (simp; omega) | (simp at *; omega))) () (fun h hh => absurd hh (Nat.not_lt_zero h)) (hb := fun k _ hk hJ => gd_name ?_) (hd := fun _ δ2 hJ l => ⟨(), fun h hh => ?_, l.trans (by repeat (first | exact trivial | refine ⟨Or.inl rfl, ?_⟩ | refine ⟨Or.inr rfl, ?_⟩))⟩)
        · refine q_seq (s_if (evt_and (evt_test (ev_ob (ev_ixLM (f := D.int) (z := 0) (ev_var rfl) (ev_var rfl) (by first | omega | (simp; omega) | (simp at *; omega)) (by first | omega | (simp; omega) | (simp at *; omega))) (ev_ixLM (f := D.int) (z := 0) (ev_var rfl) (ev_var rfl) (by first | omega | (simp; omega) | (simp at *; omega)) (by first | omega | (simp; omega) | (simp at *; omega))))) (fun hc => (evt_test (ev_ob (ev_ixLM (f := D.int) (z := 0) (ev_var rfl) (ev_var rfl) (by first | omega | (simp; omega) | (simp at *; omega)) (by first | omega | (simp; omega) | (simp at *; omega))) (ev_ixLM (f := D.int) (z := 0) (ev_var rfl) (ev_var rfl) (by first | omega | (simp; omega) | (simp at *; omega)) (by first | omega | (simp; omega) | (simp at *; omega))))))) (fun hb => ?_) (fun hb => ?_))
          · have hz : ¬ Agr row.length rk row lv := fun z => (z j hj hb' k hk).1 ⟨of_decide_eq_true (Bool.and_eq_true_iff.mp hb).1, of_decide_eq_true (Bool.and_eq_true_iff.mp hb).2⟩
            rw [decide_eq_false hz]
            refine s_ret ev_bl ?_
            rfl
          · refine s_next ?_
            have hz1 : ¬ (rk.getD k 0 < rk.getD j 0 ∧ lv.getD k 0 ≤ lv.getD j 0) := fun z => by
              simp only [Int.toNat_natCast] at hb
              rw [decide_eq_true z.1, decide_eq_true z.2] at hb
              cases hb
            clear hb
            refine s_if (evt_and (evt_test (ev_eqi (ev_ixLM (f := D.int) (z := 0) (ev_var rfl) (ev_var rfl) (by first | omega | (simp; omega) | (simp at *; omega)) (by first | omega | (simp; omega) | (simp at *; omega))) (ev_ixLM (f := D.int) (z := 0) (ev_var rfl) (ev_var rfl) (by first | omega | (simp; omega) | (simp at *; omega)) (by first | omega | (simp; omega) | (simp at *; omega))))) (fun hc => (evt_test (ev_ob (ev_ixLM (f := D.int) (z := 0) (ev_var rfl) (ev_var rfl) (by first | omega | (simp; omega) | (simp at *; omega)) (by first | omega | (simp; omega) | (simp at *; omega))) (ev_ixLM (f := D.int) (z := 0) (ev_var rfl) (ev_var rfl) (by first | omega | (simp; omega) | (simp at *; omega)) (by first | omega | (simp; omega) | (simp at *; omega))))))) (fun hb => ?_) (fun hb => ?_)
            · have hz : ¬ Agr row.length rk row lv := fun z => (z j hj hb' k hk).2 ⟨of_decide_eq_true (Bool.and_eq_true_iff.mp hb).1, of_decide_eq_true (Bool.and_eq_true_iff.mp hb).2⟩
              rw [decide_eq_false hz]
              refine s_ret ev_bl ?_
              rfl
            · refine s_next (at_mk () fun o ho => ?_)
              have hz2 : ¬ (rk.getD k 0 = rk.getD j 0 ∧ lv.getD k 0 < lv.getD j 0) := fun z => by
                simp only [Int.toNat_natCast] at hb
                rw [decide_eq_true z.1, decide_eq_true z.2] at hb
                cases hb
              rcases Nat.lt_succ_iff_lt_or_eq.mp ho with ho | rfl
              · exact hJ o ho
              · exact ⟨hz1, hz2⟩
        · rcases Nat.lt_succ_iff_lt_or_eq.mp hh with hh | rfl
          · exact hI h hh
          · exact fun _ o ho => hJ o ho
      · refine s_next (at_mk () fun h hh => ?_)
        rcases Nat.lt_succ_iff_lt_or_eq.mp hh with hh | rfl
        · exact hI h hh
        · exact fun z => absurd z (of_decide_eq_false hb)
    · rw [decide_eq_true (show Agr row.length rk row lv from hI)]
      refine s_ret ev_bl ?_
      rfl
/-! ### _law_due -/
abbrev wrld (rks rows : List (List Int)) (free : List Int) : D := .tup [eL (eL D.int) rks, eL (eL D.int) rows, eL D.int free]
inductive R_due : List D → Rs → Prop
  | mk (rks rows : List (List Int)) (free lv : List Int) (hr : rks.length = rows.length) (h1 : ∀ r ∈ rks, r.length = free.length) (h2 : ∀ r ∈ rows, r.length = free.length) (hn : free.length ≤ 1000) (hm : rows.length ≤ 1000) (hl : lv.length ≤ 1000) :
      R_due [wrld rks rows free, eL D.int lv] (.d (.bl (decide (Due free.length rks rows free lv))))
theorem ok__law_due (T : Tx K mg) : ∃ fd, FnOk pw w K mg base (L2.CX pw w) 2 (He.ga K "_law_due") fd ["world", "levels"] (spR K R_due) ∧ Binds K fd ["world", "levels"] [] ∧ PySem.W.keepIn K (.ref (He.ga K "_law_due")) = true := by
  obtain ⟨fd__law_agrees, F__law_agrees, b__law_agrees, k__law_agrees⟩ := ok__law_agrees (w := w) (base := base) T
  obtain ⟨fd, FD⟩ := T.c.def_ 19 (d := d__law_due) rfl
  have sc := sc__law_due
  refine ⟨fd, fnR FD sc (fun ds r h => by cases h <;> rfl) fun cdv A outer s H E hr ds r hR => ⟨_, (pss_cons (ps_asg (pv 0) (pg_tupK (K := K) (n := 3) rfl rfl (pgs_cons (pg_name (i := 4) sc.nd rfl (by first | exact Or.inl rfl | exact Or.inr rfl)) (pgs_cons (pg_name (i := 5) sc.nd rfl (by first | exact Or.inl rfl | exact Or.inr rfl)) (pgs_cons (pg_name (i := 6) sc.nd rfl (by first | exact Or.inl rfl | exact Or.inr rfl)) pgs_nil))))) (pss_cons (ps_if (pt_cmpR op_ne (pe_callB (call_len_seqK (K := K) rfl) rfl (f_len T) PySem.boot_len (pa_cons (pv 1) pa_nil)) (pe_callB (call_len_seqK (K := K) rfl) rfl (f_len T) PySem.boot_len (pa_cons (pv 6) pa_nil)) (nomark _)) (pss_one (ps_ret pe_bl)) pss_nil) (pss_cons (ps_for (passes_of rfl) rfl (pi_range1 rfl (f_range T) (pa_cons (pe_callB (call_len_seqK (K := K) rfl) rfl (f_len T) PySem.boot_len (pa_cons (pv 6) pa_nil)) pa_nil)) (pg_name (i := 2) sc.nd rfl (by first | exact Or.inl rfl | exact Or.inr rfl)) (pss_cons (ps_if (pt_cmpR op_lt (pe_ix (ix_listK (K := K) rfl) (pv 1) (pv 2) (fun _ _ => rfl)) pe_int (nomark _)) (pss_one (ps_ret pe_bl)) pss_nil) (pss_one (ps_if (PW.pt (pw_and (pt_cmpR op_gt (pe_ix (ix_listK (K := K) rfl) (pv 6) (pv 2) (fun _ _ => rfl)) pe_int (nomark _)) (pw_and1 (pt_cmpR op_ne (pe_ix (ix_listK (K := K) rfl) (pv 1) (pv 2) (fun _ _ => rfl)) pe_int (nomark _))))) (pss_one (ps_ret pe_bl)) pss_nil)))) (pss_cons (ps_for (passes_of rfl) rfl (pi_range1 rfl (f_range T) (pa_cons (pe_callB (call_len_seqK (K := K) rfl) rfl (f_len T) PySem.boot_len (pa_cons (pv 5) pa_nil)) pa_nil)) (pg_name (i := 3) sc.nd rfl (by first | exact Or.inl rfl | exact Or.inr rfl)) (pss_one (ps_if (pt_not (pt_val (pe_callSD F__law_agrees (hr.mono (by decide)) rfl (g__law_agrees T) k__law_agrees b__law_agrees .nil (fun σ => passAt (takes_of rfl rfl rfl rfl) σ) (pa_cons (pe_ix (ix_listK (K := K) rfl) (pv 4) (pv 3) (fun _ _ => rfl)) (pa_cons (pe_ix (ix_listK (K := K) rfl) (pv 5) (pv 3) (fun _ _ => rfl)) (pa_cons (pv 1) pa_nil)))))) (pss_one (ps_ret pe_bl)) pss_nil))) (pss_one (ps_ret pe_bl)))))), ?_⟩, FD.bindsN fun _ _ _ _ _ _ us hl => match us, hl with | [_, _], _ => rfl, FD.kp⟩
  intro F xw
  cases hR with
  | mk rks rows free lv hr h1 h2 hn hm hl =>
    refine q_seq (s_asg (ev_var rfl) (gd_tup3 ?_))
    refine q_seq (s_if (evt_test (ev_nei (ev_lenM (f := D.int) (ev_var rfl)) (ev_lenM (f := D.int) (ev_var rfl)))) (fun hb => ?_) (fun hb => ?_))
    · have hz : ¬ Due free.length rks rows free lv := fun z => by
        rw [z.1] at hb
        simp at hb
      rw [decide_eq_false hz]
      refine s_ret ev_bl ?_
      rfl
    refine s_next ?_
    have hlen : lv.length = free.length := by
      have hb : (!decide ((lv.length : Int) = free.length)) = false := hb
      simp at hb
      omega
    refine q_forE (fun _ : Unit => [.d (wrld rks rows free), .d (eL D.int lv), .un, .un, .d (eL (eL D.int) rks), .d (eL (eL D.int) rows), .d (eL D.int free)]) (fun j _ => ∀ k, k < j → FreeOk free.length free lv k) (src_rngN (eva_cons (ev_lenM (f := D.int) (ev_var rfl)) eva_nil) (by first | omega | (simp; omega) | (simp at *; omega))) () (fun h hh => absurd hh (Nat.not_lt_zero h)) (hb := fun j _ hj hI => gd_name ?_) (hd := fun _ hI => ?_)
    · refine q_seq (s_if (evt_test (ev_ob (ev_ixLM (f := D.int) (z := 0) (ev_var rfl) (ev_var rfl) (by first | omega | (simp; omega) | (simp at *; omega)) (by first | omega | (simp; omega) | (simp at *; omega))) ev_int)) (fun hb => ?_) (fun hb => ?_))
      · have hb' : lv.getD j 0 < 0 := of_decide_eq_true hb
        have hz : ¬ Due free.length rks rows free lv := fun z => by
          have h3 := (z.2.1 j hj).1
          omega
        rw [decide_eq_false hz]
        refine s_ret ev_bl ?_
        rfl
      refine s_next ?_
      have hb0 : ¬ lv.getD j 0 < 0 := of_decide_eq_false hb
      clear hb
      refine s_if (evt_and (evt_test (ev_ob (ev_ixLM (f := D.int) (z := 0) (ev_var rfl) (ev_var rfl) (by first | omega | (simp; omega) | (simp at *; omega)) (by first | omega | (simp; omega) | (simp at *; omega))) ev_int)) (fun hc => (evt_test (ev_nei (ev_ixLM (f := D.int) (z := 0) (ev_var rfl) (ev_var rfl) (by first | omega | (simp; omega) | (simp at *; omega)) (by first | omega | (simp; omega) | (simp at *; omega))) ev_int)))) (fun hb => ?_) (fun hb => ?_)
      · have hz : ¬ Due free.length rks rows free lv := fun z => by
          have h3 := (z.2.1 j hj).2
          simp only [Bool.and_eq_true, Bool.not_eq_true', decide_eq_true_eq, decide_eq_false_iff_not, Int.toNat_natCast] at hb
          omega
        rw [decide_eq_false hz]
        refine s_ret ev_bl ?_
        rfl
      · refine s_next (at_mk () fun k hk => ?_)
        rcases Nat.lt_succ_iff_lt_or_eq.mp hk with hk | rfl
        · exact hI k hk
        · unfold FreeOk
          simp only [Bool.and_eq_false_iff, Bool.not_eq_false', decide_eq_true_eq, decide_eq_false_iff_not, Int.toNat_natCast] at hb
          omega
    · refine q_forE (fun _ : Unit => [.d (wrld rks rows free), .d (eL D.int lv), .un, .un, .d (eL (eL D.int) rks), .d (eL (eL D.int) rows), .d (eL D.int free)]) (fun j _ => ∀ p, p < j → Agr free.length (rks.getD p []) (rows.getD p []) lv) (src_rngN (eva_cons (ev_lenM (f := (eL D.int)) (ev_var rfl)) eva_nil) (by first | omega | (simp; omega) | (simp at *; omega))) () (fun h hh => absurd hh (Nat.not_lt_zero h)) (hb := fun j _ hj hJ => gd_name ?_) (hd := fun _ hJ => ?_)
      · have e1 := h1 _ (getD_mem (z := []) (show j < rks.length by omega))
        have e2 := h2 _ (getD_mem (z := []) hj)
        refine s_if (evt_not (evt_B (ev_callX (eva_cons (ev_ixLM (f := (eL D.int)) (z := []) (ev_var rfl) (ev_var rfl) (by first | omega | (simp; omega) | (simp at *; omega)) (by first | omega | (simp; omega) | (simp at *; omega))) (eva_cons (ev_ixLM (f := (eL D.int)) (z := []) (ev_var rfl) (ev_var rfl) (by first | omega | (simp; omega) | (simp at *; omega)) (by first | omega | (simp; omega) | (simp at *; omega))) (eva_cons (ev_var rfl) eva_nil))) (R_lag.mk (rks.getD j []) (rows.getD j []) lv (by omega) (by omega) (by omega))))) (fun hb => ?_) (fun hb => ?_)
        · have hz : ¬ Due free.length rks rows free lv := fun z => by
            have h3 := z.2.2 j hj
            rw [e2, decide_eq_true h3] at hb
            cases hb
          rw [decide_eq_false hz]
          refine s_ret ev_bl ?_
          rfl
        · refine s_next (at_mk () fun k hk => ?_)
          rcases Nat.lt_succ_iff_lt_or_eq.mp hk with hk | rfl
          · exact hJ k hk
          · rw [e2] at hb
            have hb : (!decide (Agr free.length (rks.getD k []) (rows.getD k []) lv)) = false := hb
            simpa using hb
      · rw [decide_eq_true (show Due free.length rks rows free lv from ⟨hlen, hI, hJ⟩)]
        refine s_ret ev_bl ?_
        rfl
/-! ### _law_papers -/
def p0 (lv : List Int) : List (List Int) := [lv, lv.map fun x => 2 * x, lv.map fun x => x * (10 ^ 20 + 1)] ++ [lv.map fun x => x + 1, lv.map fun x => x - 1, List.replicate lv.length 0] ++ [lv ++ [0], lv.take (lv.length - 1), []]
def fst' (c : Int) (n : Nat) : Nat := (c % (n : Int)).toNat
def snd' (c : Int) (n : Nat) : Nat := (c / 12 % (n : Int)).toNat
def swp (c : Int) (lv : List Int) : List Int := (lv.set (fst' c lv.length) (lv.getD (snd' c lv.length) 0)).set (snd' c lv.length) (lv.getD (fst' c lv.length) 0)
def asked (c : Int) (n : Nat) : List Int := if 6 < n then [(fst' c n : Int), (snd' c n : Int), c / 144 % (n : Int)] else (List.range n).map fun k : Nat => (k : Int)
def prs (c : Int) (lv : List Int) (t : Int) : List Int := [lv.getD t.toNat 0 + 1, lv.getD t.toNat 0 - 1, lv.getD ((snd' c lv.length : Nat) : Int).toNat 0, lv.getD ((fst' c lv.length : Nat) : Int).toNat 0]
def addP (c : Int) (lv : List Int) (Q : List (List Int)) (t : Int) : List (List Int) := (prs c lv t).foldl (fun Q v => Q ++ [lv.set t.toNat v]) Q
theorem dmap (l : List Int) (g : Int → Int) : D.lst (l.map fun x => D.int (g x)) = eL D.int (l.map g) := by
  unfold eL
  rw [List.map_map]
  rfl
def papersL (c : Int) (lv : List Int) : List (List Int) := (asked c lv.length).foldl (addP c lv) (p0 lv ++ [swp c lv])
inductive R_pap : List D → Rs → Prop
  | mk (ns lv : List Int) (h1 : 1 ≤ lv.length ∧ lv.length ≤ 12) (hz : ∀ e ∈ lv, e.natAbs < 2 ^ 100) : R_pap [.scr ns, eL D.int lv] (.l ((papersL (cell ns 9) lv).map (eL D.int)))
theorem ok__law_papers (T : Tx K mg) : ∃ fd, FnOk pw w K mg base (L2.CX pw w) 2 (He.ga K "_law_papers") fd ["script", "levels"] (spR K R_pap) ∧ Binds K fd ["script", "levels"] [] ∧ PySem.W.keepIn K (.ref (He.ga K "_law_papers")) = true := by
  obtain ⟨fd__law_cell, F__law_cell, b__law_cell, k__law_cell⟩ := ok__law_cell (w := w) (base := base) T
  obtain ⟨fd, FD⟩ := T.c.def_ 20 (d := d__law_papers) rfl
  have sc := sc__law_papers
  refine ⟨fd, fnR FD sc (fun ds r h => by cases h <;> rfl) fun cdv A outer s H E hr ds r hR => ⟨_, (pss_cons (ps_set (i := 2) sc.nd rfl (by first | exact Or.inl rfl | exact Or.inr rfl) (pe_callB (call_len_seqK (K := K) rfl) rfl (f_len T) PySem.boot_len (pa_cons (pv 1) pa_nil))) (pss_cons (ps_set (i := 3) sc.nd rfl (by first | exact Or.inl rfl | exact Or.inr rfl) (pe_callSD F__law_cell (hr.mono (by decide)) rfl (g__law_cell T) k__law_cell b__law_cell .nil (fun σ => passAt (takes_of rfl rfl rfl rfl) σ) (pa_cons (pv 0) (pa_cons pe_int pa_nil)))) (pss_cons (ps_set (i := 4) sc.nd rfl (by first | exact Or.inl rfl | exact Or.inr rfl) (pe_op op_mod (pe_callTy call_int1 rfl (f_int T) (by decide +kernel) (pa_cons (pv 3) pa_nil)) (pv 2))) (pss_cons (ps_set (i := 5) sc.nd rfl (by first | exact Or.inl rfl | exact Or.inr rfl) (pe_op op_mod (pe_callTy call_int1 rfl (f_int T) (by decide +kernel) (pa_cons (pe_op op_fdivW (pv 3) pe_int) pa_nil)) (pv 2))) (pss_cons (ps_set (i := 6) sc.nd rfl (by first | exact Or.inl rfl | exact Or.inr rfl) (pe_lst (pa_cons (pv 1) (pa_cons (pe_lc (own := [("level", 12)]) (g := gName 12) (tt := tYes) rfl sc.nd (pi_listK (K := K) rfl (pv 1)) (blkOk_by (N := ["script", "levels", "things", "cell", "first", "second", "papers", "swapped", "asked", "thing", "price", "changed", "level"]) (sc := defScope s__law_papers) (by decide +kernel)) (fun _ _ _ _ _ => (pg_name (i := 12) sc.nd rfl (by first | exact Or.inl rfl | exact Or.inr rfl))) (fun _ _ _ _ _ => pts_nil) (fun _ _ _ _ _ => (pe_op op_mulW pe_int (pv 12)))) (pa_cons (pe_lc (own := [("level", 12)]) (g := gName 12) (tt := tYes) rfl sc.nd (pi_listK (K := K) rfl (pv 1)) (blkOk_by (N := ["script", "levels", "things", "cell", "first", "second", "papers", "swapped", "asked", "thing", "price", "changed", "level"]) (sc := defScope s__law_papers) (by decide +kernel)) (fun _ _ _ _ _ => (pg_name (i := 12) sc.nd rfl (by first | exact Or.inl rfl | exact Or.inr rfl))) (fun _ _ _ _ _ => pts_nil) (fun _ _ _ _ _ => (pe_op op_mulW (pv 12) (pe_op op_add (pe_op op_pow pe_int pe_int) pe_int)))) pa_nil))))) (pss_cons (ps_set (i := 6) sc.nd rfl (by first | exact Or.inl rfl | exact Or.inr rfl) (pe_op op_cat (pv 6) (pe_lst (pa_cons (pe_lc (own := [("level", 12)]) (g := gName 12) (tt := tYes) rfl sc.nd (pi_listK (K := K) rfl (pv 1)) (blkOk_by (N := ["script", "levels", "things", "cell", "first", "second", "papers", "swapped", "asked", "thing", "price", "changed", "level"]) (sc := defScope s__law_papers) (by decide +kernel)) (fun _ _ _ _ _ => (pg_name (i := 12) sc.nd rfl (by first | exact Or.inl rfl | exact Or.inr rfl))) (fun _ _ _ _ _ => pts_nil) (fun _ _ _ _ _ => (pe_op op_add (pv 12) pe_int))) (pa_cons (pe_lc (own := [("level", 12)]) (g := gName 12) (tt := tYes) rfl sc.nd (pi_listK (K := K) rfl (pv 1)) (blkOk_by (N := ["script", "levels", "things", "cell", "first", "second", "papers", "swapped", "asked", "thing", "price", "changed", "level"]) (sc := defScope s__law_papers) (by decide +kernel)) (fun _ _ _ _ _ => (pg_name (i := 12) sc.nd rfl (by first | exact Or.inl rfl | exact Or.inr rfl))) (fun _ _ _ _ _ => pts_nil) (fun _ _ _ _ _ => (pe_op op_sub (pv 12) pe_int))) (pa_cons (pe_op op_rep (pe_lst (pa_cons pe_int pa_nil)) (pv 2)) pa_nil)))))) (pss_cons (ps_set (i := 6) sc.nd rfl (by first | exact Or.inl rfl | exact Or.inr rfl) (pe_op op_cat (pv 6) (pe_lst (pa_cons (pe_op op_cat (pv 1) (pe_lst (pa_cons pe_int pa_nil))) (pa_cons (pe_slice (sl_listK (K := K) rfl) (pv 1) po_none (po_some (pe_op op_sub (pv 2) pe_int))) (pa_cons (pe_lst pa_nil) pa_nil)))))) (pss_cons (ps_set (i := 7) sc.nd rfl (by first | exact Or.inl rfl | exact Or.inr rfl) (pe_callTy (call_list_ofK (K := K) rfl) rfl (f_list T) (by decide +kernel) (pa_cons (pv 1) pa_nil))) (pss_cons (ps_asg (pe_ix (ix_listK (K := K) rfl) (pv 1) (pv 5) (fun _ _ => rfl)) (pg_sub (pv 7) (pv 4) set_list)) (pss_cons (ps_asg (pe_ix (ix_listK (K := K) rfl) (pv 1) (pv 4) (fun _ _ => rfl)) (pg_sub (pv 7) (pv 5) set_list)) (pss_cons (ps_expr (pe_appK (K := K) rfl (pv 6) (pa_cons (pv 7) pa_nil))) (pss_cons (ps_set (i := 8) sc.nd rfl (by first | exact Or.inl rfl | exact Or.inr rfl) (pe_listRg rfl rfl (f_list T) (prg_1 rfl (f_range T) (pv 2)))) (pss_cons (ps_if (pt_cmpR op_gt (pv 2) pe_int (nomark _)) (pss_one (ps_set (i := 8) sc.nd rfl (by first | exact Or.inl rfl | exact Or.inr rfl) (pe_lst (pa_cons (pv 4) (pa_cons (pv 5) (pa_cons (pe_op op_mod (pe_callTy call_int1 rfl (f_int T) (by decide +kernel) (pa_cons (pe_op op_fdivW (pv 3) pe_int) pa_nil)) (pv 2)) pa_nil)))))) pss_nil) (pss_cons (ps_for (passes_of rfl) rfl (pi_listK (K := K) rfl (pv 8)) (pg_name (i := 9) sc.nd rfl (by first | exact Or.inl rfl | exact Or.inr rfl)) (pss_one (ps_for (passes_of rfl) rfl (pi_listK (K := K) rfl (pe_lst (pa_cons (pe_op op_add (pe_ix (ix_listK (K := K) rfl) (pv 1) (pv 9) (fun _ _ => rfl)) pe_int) (pa_cons (pe_op op_sub (pe_ix (ix_listK (K := K) rfl) (pv 1) (pv 9) (fun _ _ => rfl)) pe_int) (pa_cons (pe_ix (ix_listK (K := K) rfl) (pv 1) (pv 5) (fun _ _ => rfl)) (pa_cons (pe_ix (ix_listK (K := K) rfl) (pv 1) (pv 4) (fun _ _ => rfl)) pa_nil)))))) (pg_name (i := 10) sc.nd rfl (by first | exact Or.inl rfl | exact Or.inr rfl)) (pss_cons (ps_set (i := 11) sc.nd rfl (by first | exact Or.inl rfl | exact Or.inr rfl) (pe_callTy (call_list_ofK (K := K) rfl) rfl (f_list T) (by decide +kernel) (pa_cons (pv 1) pa_nil))) (pss_cons (ps_asg (pv 10) (pg_sub (pv 11) (pv 9) set_list)) (pss_one (ps_expr (pe_appK (K := K) rfl (pv 6) (pa_cons (pv 11) pa_nil))))))))) (pss_one (ps_ret (pv 6))))))))))))))))), ?_⟩, FD.bindsN fun _ _ _ _ _ _ us hl => match us, hl with | [_, _], _ => rfl, FD.kp⟩
  intro F xw
  cases hR with
  | mk ns lv h1 hz =>

    refine q_seq (s_set (ev_lenM (f := D.int) (ev_var rfl)) ?_)
    refine q_seq (s_set (ev_callX (eva_cons (ev_var rfl) (eva_cons ev_int eva_nil)) (R_cell.mk ns 9 (by decide))) ?_)
    generalize cell ns 9 = c
    obtain ⟨n, hn⟩ : ∃ n, lv.length = n := ⟨_, rfl⟩
    have n0 : (0 : Int) < lv.length := by omega
    have md : ∀ x : Int, 0 ≤ x % (lv.length : Int) ∧ x % (lv.length : Int) < lv.length := fun x => ⟨Int.emod_nonneg _ (by omega), Int.emod_lt_of_pos _ n0⟩
    have m1 := md c
    have m2 := md (c / 12)
    have m3 := md (c / 144)
    have f1 : (fst' c lv.length : Int) = c % (lv.length : Int) := by unfold fst'; omega
    have f2 : (snd' c lv.length : Int) = c / 12 % (lv.length : Int) := by unfold snd'; omega
    have f3 : fst' c lv.length < lv.length := by omega
    have f4 : snd' c lv.length < lv.length := by omega
    have gz : ∀ k, (lv.getD k 0).natAbs < 2 ^ 100 := fun k => getD_abs hz
    refine q_seq (s_set (ev_ci (ev_int1 (ev_var rfl)) (ev_var rfl) (by omega)) ?_)
    refine q_seq (s_set (ev_ci (ev_int1 (ev_ci (ev_var rfl) ev_int (wdiv (by decide) (by decide) _))) (ev_var rfl) (by omega)) ?_)
    rw [← f1, ← f2]
    refine s_lek (δ' := [.d (.scr ns), .d (eL D.int lv), .d (.int lv.length), .d (.int c), .d (.int (fst' c lv.length)), .d (.int (snd' c lv.length)), .un, .un, .un, .un, .un, .un, .un]) (by repeat (first | exact trivial | refine ⟨Or.inl rfl, ?_⟩ | refine ⟨Or.inr rfl, ?_⟩)) ?_
    refine q_seq (s_setl (evl_threeM (f := eL D.int) (b := lv.map fun x => 2 * x) (c := lv.map fun x => x * (10 ^ 20 + 1)) (ev_var rfl) (Ev.to (ev_l (evl_mapA D.int (fun x => .int (2 * x)) (src_listM (enc := D.int) (ev_var rfl)) (by first | omega | (simp; omega) | (simp at *; omega)) (fun _ h => h) (fun x hx => gd_name ⟨evt_yes, (Ev.to (ev_ci ev_int (ev_var rfl) (wide_mul (a := 2) (b := 100) (by decide) (hz x hx) (by decide) (by decide) (by decide))) (by first | rfl | simp))⟩))) (dmap _ _)) (Ev.to (ev_l (evl_mapA D.int (fun x => .int (x * (10 ^ 20 + 1))) (src_listM (enc := D.int) (ev_var rfl)) (by first | omega | (simp; omega) | (simp at *; omega)) (fun _ h => h) (fun x hx => gd_name ⟨evt_yes, (Ev.to (ev_ci (ev_var rfl) (ev_oi (ev_ci ev_int ev_int ⟨by decide, by decide, by decide⟩) ev_int) (wide_mul (a := 100) (b := 100) (hz x hx) (by decide) (by decide) (by decide) (by decide))) (by first | rfl | simp))⟩))) (dmap _ _))) ?_)
    refine s_fz 6 rfl rfl ?_

    refine q_seq (s_setl (evl_catM (f := eL D.int) (ev_var rfl) (ev_l (evl_threeM (f := eL D.int) (a := lv.map fun x => x + 1) (b := lv.map fun x => x - 1) (c := List.replicate lv.length 0) (Ev.to (ev_l (evl_mapA D.int (fun x => .int (x + 1)) (src_listM (enc := D.int) (ev_var rfl)) (by first | omega | (simp; omega) | (simp at *; omega)) (fun _ h => h) (fun x hx => gd_name ⟨evt_yes, (Ev.to (ev_oi (ev_var rfl) ev_int) (by first | rfl | simp))⟩))) (dmap _ _)) (Ev.to (ev_l (evl_mapA D.int (fun x => .int (x - 1)) (src_listM (enc := D.int) (ev_var rfl)) (by first | omega | (simp; omega) | (simp at *; omega)) (fun _ h => h) (fun x hx => gd_name ⟨evt_yes, (Ev.to (ev_oi (ev_var rfl) ev_int) (by first | rfl | simp))⟩))) (dmap _ _)) ((ev_l (evl_repM ev_int (ev_var rfl) (by omega))).to (by rw [Int.toNat_natCast])))) (by simp)) ?_)
    refine s_fz 6 rfl rfl ?_
    refine q_seq (s_setl (evl_catM (f := eL D.int) (ev_var rfl) (ev_l (evl_threeM (f := eL D.int) (a := lv ++ [0]) (b := lv.take (lv.length - 1)) (c := []) (ev_l (evl_catM (ev_var rfl) (ev_l (evl_oneM (f := D.int) ev_int)) (by simp; omega))) ((ev_l (evl_slM (ev_var rfl) evo_none (evo_some (ev_oi (ev_var rfl) ev_int)))).to (by rw [cutL_to (k := (lv.length : Int) - 1) _ (by omega)]; congr 2; congr 1; omega)) (ev_l evl_nilM))) (by simp)) ?_)
    rw [show (([lv, lv.map fun x => 2 * x, lv.map fun x => x * (10 ^ 20 + 1)] ++ [lv.map fun x => x + 1, lv.map fun x => x - 1, List.replicate lv.length 0]) ++ [lv ++ [0], lv.take (lv.length - 1), []]) = p0 lv from rfl]
    refine s_lek (δ' := [.d (.scr ns), .d (eL D.int lv), .d (.int lv.length), .d (.int c), .d (.int (fst' c lv.length)), .d (.int (snd' c lv.length)), .own (.lst ((p0 lv).map (eL D.int))), .un, .un, .un, .un, .un, .un]) (by repeat (first | exact trivial | refine ⟨Or.inl rfl, ?_⟩ | refine ⟨Or.inr rfl, ?_⟩)) ?_
    have hp0 : (p0 lv).length = 9 := by simp [p0]

    refine q_seq (s_setl (evl_ofL (ev_var rfl)) ?_)
    refine q_seq (s_seto rfl (ev_ixLM (f := D.int) (z := 0) (ev_var rfl) (ev_var rfl) (by first | omega | (simp; omega) | (simp at *; omega)) (by first | omega | (simp; omega) | (simp at *; omega))) (ev_var rfl) (ixN_ok (by first | omega | (simp; omega) | (simp at *; omega)) (by first | omega | (simp; omega) | (simp at *; omega))) ?_)
    refine q_seq (s_seto rfl (ev_ixLM (f := D.int) (z := 0) (ev_var rfl) (ev_var rfl) (by first | omega | (simp; omega) | (simp at *; omega)) (by first | omega | (simp; omega) | (simp at *; omega))) (ev_var rfl) (ixN_ok (by first | omega | (simp; omega) | (simp at *; omega)) (by first | omega | (simp; omega) | (simp at *; omega))) ?_)
    simp only [Int.toNat_natCast]
    rw [map_setI, map_setI]
    rw [show (lv.set (fst' c lv.length) (lv.getD (snd' c lv.length) 0)).set (snd' c lv.length) (lv.getD (fst' c lv.length) 0) = swp c lv from rfl]
    refine s_fz 7 rfl rfl ?_

    refine q_seq (s_app rfl (ev_var rfl) (by rw [List.length_map, hp0]; decide) ?_)
    rw [snoc_map (f := eL D.int) (a := swp c lv) rfl]
    have hp1 : (p0 lv ++ [swp c lv]).length = 10 := by simp [p0]
    unfold papersL
    generalize p0 lv ++ [swp c lv] = Q0 at hp1 ⊢
    refine s_lek (δ' := [.d (.scr ns), .d (eL D.int lv), .d (.int lv.length), .d (.int c), .d (.int (fst' c lv.length)), .d (.int (snd' c lv.length)), .own (.lst (Q0.map (eL D.int))), .d (eL D.int (swp c lv)), .un, .un, .un, .un, .un]) (by repeat (first | exact trivial | refine ⟨Or.inl rfl, ?_⟩ | refine ⟨Or.inr rfl, ?_⟩)) ?_
    refine q_seq (s_set (ev_l (evl_lrng (ev_var rfl) (by first | omega | (simp; omega) | (simp at *; omega)))) ?_)
    refine q_midE (fun l : List Int => [.d (.scr ns), .d (eL D.int lv), .d (.int lv.length), .d (.int c), .d (.int (fst' c lv.length)), .d (.int (snd' c lv.length)), .own (.lst (Q0.map (eL D.int))), .d (eL D.int (swp c lv)), .d (eL D.int l), .un, .un, .un, .un]) (fun l => l = asked c lv.length ∧ ∀ t ∈ l, 0 ≤ t ∧ t < lv.length) ?_ ?_
    · refine s_if (evt_test (ev_ob (ev_var rfl) ev_int)) (fun hb => ?_) (fun hb => ?_)
      · have z : 6 < lv.length := by
          have := of_decide_eq_true hb
          omega
        refine s_set (ev_l (evl_threeM (f := D.int) (ev_var rfl) (ev_var rfl) (ev_ci (ev_int1 (ev_ci (ev_var rfl) ev_int (wdiv (by decide) (by decide) _))) (ev_var rfl) (by omega)))) ?_
        refine at_mk [(fst' c lv.length : Int), (snd' c lv.length : Int), c / 144 % (lv.length : Int)] ⟨?_, ?_⟩
        · unfold asked
          rw [if_pos z]
        · intro t ht
          simp only [List.mem_cons, List.not_mem_nil, or_false] at ht
          omega
      · have z : ¬ 6 < lv.length := by
          have := of_decide_eq_false hb
          omega
        rw [show ((List.range lv.length).map fun k => D.int (k : Nat)) = ((List.range lv.length).map fun k : Nat => (k : Int)).map D.int from by rw [List.map_map]; rfl]
        refine s_next (at_mk ((List.range lv.length).map fun k : Nat => (k : Int)) ⟨?_, ?_⟩)
        · unfold asked
          rw [if_neg z]
        · intro t ht
          obtain ⟨k, hk, rfl⟩ := List.mem_map.mp ht
          have := List.mem_range.mp hk
          omega
    rintro l ⟨rfl, hl⟩
    have hal : (asked c lv.length).length ≤ 12 := by
      unfold asked
      split
      · simp
      · simp
        omega
    generalize asked c lv.length = as at hl hal ⊢
    refine q_forF D.int (fun Q : List (List Int) => [.d (.scr ns), .d (eL D.int lv), .d (.int lv.length), .d (.int c), .d (.int (fst' c lv.length)), .d (.int (snd' c lv.length)), .own (.lst (Q.map (eL D.int))), .d (eL D.int (swp c lv)), .d (eL D.int as), .un, .un, .un, .un]) (addP c lv) (fun i Q => Q.length = 10 + 4 * i) (src_listM (enc := D.int) (ev_var rfl)) Q0 hp1 (hb := fun i t Q ht hQ => ⟨?_, gd_name ?_⟩) (hd := fun _ => ?_)
    · show ((prs c lv t).foldl (fun Q v => Q ++ [lv.set t.toNat v]) Q).length = _
      simp [prs, hQ]
      omega
    · obtain ⟨t1, t2⟩ := hl t (List.mem_of_getElem? ht)
      have hi : i < 12 := by
        have := (List.getElem?_eq_some_iff.mp ht).1
        omega
      refine s_forAE (l := prs c lv t) D.int (fun P : List (List Int) => [.d (.scr ns), .d (eL D.int lv), .d (.int lv.length), .d (.int c), .d (.int (fst' c lv.length)), .d (.int (snd' c lv.length)), .own (.lst (P.map (eL D.int))), .d (eL D.int (swp c lv)), .d (eL D.int as), .d (.int t), .un, .un, .un]) (fun j P => P = ((prs c lv t).take j).foldl (fun Q v => Q ++ [lv.set t.toNat v]) Q) (src_listM (enc := D.int) (ev_l (evl_fourM (f := D.int) (ev_oi (ev_ixLM (f := D.int) (z := 0) (ev_var rfl) (ev_var rfl) (by first | omega | (simp; omega) | (simp at *; omega)) (by first | omega | (simp; omega) | (simp at *; omega))) ev_int) (ev_oi (ev_ixLM (f := D.int) (z := 0) (ev_var rfl) (ev_var rfl) (by first | omega | (simp; omega) | (simp at *; omega)) (by first | omega | (simp; omega) | (simp at *; omega))) ev_int) (ev_ixLM (f := D.int) (z := 0) (ev_var rfl) (ev_var rfl) (by first | omega | (simp; omega) | (simp at *; omega)) (by first | omega | (simp; omega) | (simp at *; omega))) (ev_ixLM (f := D.int) (z := 0) (ev_var rfl) (ev_var rfl) (by first | omega | (simp; omega) | (simp at *; omega)) (by first | omega | (simp; omega) | (simp at *; omega)))))) Q rfl (hb := fun j v P hv hP => gd_name ?_) (hd := fun P δ2 hP hl2 => ?_)
      · have hPl : P.length ≤ 62 := by
          rw [hP]
          have hj : j < 4 := (List.getElem?_eq_some_iff.mp hv).1
          rcases (show j = 0 ∨ j = 1 ∨ j = 2 ∨ j = 3 by omega) with rfl | rfl | rfl | rfl <;> simp [prs, hQ] <;> omega

        refine q_seq (s_setl (evl_ofL (ev_var rfl)) ?_)
        refine q_seq (s_seto rfl (ev_var rfl) (ev_var rfl) (ixN_ok (by first | omega | (simp; omega) | (simp at *; omega)) (by first | omega | (simp; omega) | (simp at *; omega))) ?_)
        rw [map_setI]
        refine s_fz 11 rfl rfl ?_

        refine s_app rfl (ev_var rfl) (by rw [List.length_map]; omega) ?_
        rw [snoc_map (f := eL D.int) (a := lv.set t.toNat v) rfl]
        refine at_mk _ ?_
        rw [hP, List.take_succ, hv, List.foldl_append]
        rfl
      · subst hP
        exact hl2.trans (by repeat (first | exact trivial | refine ⟨Or.inl rfl, ?_⟩ | refine ⟨Or.inr rfl, ?_⟩))
    · refine s_reto rfl ?_
      rfl
end
end G17
set_option Elab.async false
set_option linter.all false
set_option maxRecDepth 100000
set_option maxHeartbeats 4000000
set_option exponentiation.threshold 2000
namespace G17
open PySem PySem.Spec PyProof.Rows L2 L3
structure LowIn (rows : List (List Int)) (whole : Int) : Prop where
  rn : rows.length ≤ 1000
  rl : ∀ r ∈ rows, r.length ≤ 1000
  re : ∀ r ∈ rows, ∀ e ∈ r, 0 ≤ e ∧ e.natAbs < 2 ^ 440
  w1 : 1 ≤ whole
  wa : whole.natAbs < 2 ^ 440
structure LowT (p n : Nat) (whole : Int) (rows : List (List Int)) : Prop where
  L : Low p n whole rows
  p1 : 1 ≤ p ∧ p ≤ 12
  n1 : 1 ≤ n ∧ n ≤ 12
  w1 : 1 ≤ whole
  wa : whole.natAbs < 2 ^ 440
theorem LowT.lowin {p n : Nat} {whole : Int} {rows : List (List Int)} (h : LowT p n whole rows) : LowIn rows whole :=
  ⟨by rw [h.L.len]; have := h.p1; omega, fun r hr => by rw [(h.L.row r hr).1]; have := h.n1; omega, fun r hr e he => by have := (h.L.row r hr).2.1 e he; have := h.wa; omega, h.w1, h.wa⟩
theorem LowT.wd {p n : Nat} {whole : Int} {rows : List (List Int)} (h : LowT p n whole rows) : wid rows = n := h.L.wd h.p1.1
/-- the table of such rows -/
theorem LowT.tab {BW BR : Addr} {p n : Nat} {whole : Int} {rows : List (List Int)} (h : LowT p n whole rows) : R_table BW BR [eL (eL D.int) rows, .int whole] (.ok (tbFs p n (redRows rows whole) (whole / com whole rows))) := by
  have hl := h.L.len
  have hw := h.wd
  have h1 := R_table.go (WH := BW) (RW := BR) rows whole (by rw [hl]; exact h.p1) (by rw [hw]; exact h.n1) h.w1 (Nat.lt_trans h.wa (by decide)) h.lowin.rl
  rw [tab_good h.w1 (h.L.good h.p1.1) fun r hr => (h.L.row r hr).2.2] at h1
  have e : gridFs rows whole = tbFs p n (redRows rows whole) (whole / com whole rows) := by
    unfold gridFs
    rw [hl, hw]
    rfl
  rw [e] at h1
  exact h1
theorem red_row {p n : Nat} {whole : Int} {rows : List (List Int)} (h : LowT p n whole rows) : (redRows rows whole).length = p ∧ (∀ r ∈ redRows rows whole, r.length = n ∧ ∀ e ∈ r, 0 ≤ e ∧ e.natAbs < 2 ^ 440) ∧ 1 ≤ whole / com whole rows ∧ (whole / com whole rows).natAbs < 2 ^ 440 := by
  have c1 := com_pos h.w1 rows
  have c2 := (com_dvd rows whole).1
  refine ⟨by unfold redRows; rw [List.length_map]; exact h.L.len, fun r hr => ?_, Int.ediv_pos_of_pos_of_dvd (by have := h.w1; omega) (by omega) c2, Nat.lt_of_le_of_lt (Int.natAbs_ediv_le_natAbs _ _) h.wa⟩
  unfold redRows at hr
  obtain ⟨r0, hr0, rfl⟩ := List.mem_map.mp hr
  refine ⟨by rw [List.length_map]; exact (h.L.row r0 hr0).1, fun e he => ?_⟩
  obtain ⟨e0, he0, rfl⟩ := List.mem_map.mp he
  have h2 := h.lowin.re r0 hr0 e0 he0
  exact ⟨Int.ediv_nonneg h2.1 (by omega), Nat.lt_of_le_of_lt (Int.natAbs_ediv_le_natAbs _ _) h2.2⟩
theorem red_low {p n : Nat} {whole : Int} {rows : List (List Int)} (h : LowT p n whole rows) : Low p n (whole / com whole rows) (redRows rows whole) := by
  obtain ⟨q1, q2, q3, q4⟩ := red_row h
  have c1 := com_pos h.w1 rows
  have c2 := com_dvd rows whole
  refine ⟨q1, fun r hr => ?_⟩
  have hr' := hr
  unfold redRows at hr'
  obtain ⟨r0, hr0, rfl⟩ := List.mem_map.mp hr'
  obtain ⟨k1, k2, k3⟩ := h.L.row r0 hr0
  refine ⟨by rw [List.length_map]; exact k1, fun e he => ?_, (sum_div_eq c1 (c2.2 r0 hr0) c2.1).mpr k3⟩
  obtain ⟨e0, he0, rfl⟩ := List.mem_map.mp he
  have := k2 e0 he0
  exact ⟨Int.ediv_nonneg this.1 (by omega), Int.ediv_le_ediv c1 this.2⟩
theorem Low.more {p n : Nat} {whole : Int} {R : List (List Int)} (h : Low p n whole R) {r : List Int} (hr : r ∈ R) : Low (p + 1) n whole (R ++ [r]) := by
  refine ⟨by simp [h.len], fun x hx => ?_⟩
  rcases List.mem_append.mp hx with hx | hx
  · exact h.row x hx
  · rw [List.mem_singleton.mp hx]
    exact h.row r hr
theorem Low.less {p n : Nat} {whole : Int} {R : List (List Int)} (h : Low p n whole R) : Low (p - 1) n whole (R.drop 1) := by
  refine ⟨by simp [h.len], fun x hx => h.row x (List.mem_of_mem_drop hx)⟩
/-! ### orders by ranks -/
theorem filter_split {p q r : Nat → Bool} (h : ∀ x, r x = (p x || q x)) (hd : ∀ x, p x = true → q x = false) : ∀ l : List Nat, (l.filter r).Perm (l.filter p ++ l.filter q)
  | [] => .nil
  | x :: l => by
    have ih := filter_split h hd l
    have h1 := h x
    cases hp : p x with
    | true =>
      have hq := hd x hp
      rw [hp, hq] at h1
      rw [List.filter_cons_of_pos h1, List.filter_cons_of_pos hp, List.filter_cons_of_neg (by rw [hq]; decide)]
      exact ih.cons x
    | false =>
      cases hq : q x with
      | true =>
        rw [hp, hq] at h1
        rw [List.filter_cons_of_pos h1, List.filter_cons_of_neg (by rw [hp]; decide), List.filter_cons_of_pos hq]
        exact (ih.cons x).trans List.perm_middle.symm
      | false =>
        rw [hp, hq] at h1
        rw [List.filter_cons_of_neg (by rw [h1]; decide), List.filter_cons_of_neg (by rw [hp]; decide), List.filter_cons_of_neg (by rw [hq]; decide)]
        exact ih
theorem grp_mem {rk : List Int} {r : Nat} {t : Int} : t ∈ grp rk r ↔ ∃ k : Nat, k < rk.length ∧ rk.getD k 0 = r ∧ t = k := by
  unfold grp
  constructor
  · intro h
    obtain ⟨k, hk, rfl⟩ := List.mem_map.mp h
    obtain ⟨h1, h2⟩ := List.mem_filter.mp hk
    exact ⟨k, List.mem_range.mp h1, of_decide_eq_true h2, rfl⟩
  · rintro ⟨k, h1, h2, rfl⟩
    exact List.mem_map.mpr ⟨k, List.mem_filter.mpr ⟨List.mem_range.mpr h1, decide_eq_true h2⟩, rfl⟩
theorem orderTo_succ (rk : List Int) (m : Nat) : (orderTo rk (m + 1)).flatten = (orderTo rk m).flatten ++ grp rk m := by
  unfold orderTo
  rw [List.range_succ, List.map_append, List.filter_append, List.flatten_append]
  congr 1
  by_cases z : 0 < (grp rk m).length
  · simp [z]
  · have : grp rk m = [] := List.eq_nil_of_length_eq_zero (by omega)
    simp [this]
theorem order_perm {rk : List Int} (h : ∀ k, k < rk.length → 0 ≤ rk.getD k 0) : ∀ M : Nat, (orderTo rk M).flatten.Perm (((List.range rk.length).filter fun k => decide (rk.getD k 0 < (M : Int))).map fun k : Nat => (k : Int))
  | 0 => by
    have e : ((List.range rk.length).filter fun k => decide (rk.getD k 0 < ((0 : Nat) : Int))) = [] := by
      rw [List.filter_eq_nil_iff]
      intro k hk
      have := h k (List.mem_range.mp hk)
      simp only [decide_eq_true_eq]
      omega
    rw [e]
    exact .nil
  | M + 1 => by
    rw [orderTo_succ]
    have hs := filter_split (p := fun k => decide (rk.getD k 0 < (M : Int))) (q := fun k => decide (rk.getD k 0 = (M : Int))) (r := fun k => decide (rk.getD k 0 < ((M + 1 : Nat) : Int))) (fun x => by
      rw [Bool.eq_iff_iff]
      simp only [Bool.or_eq_true, decide_eq_true_eq]
      omega) (fun x hx => by
      have := of_decide_eq_true hx
      exact decide_eq_false (by omega)) (List.range rk.length)
    have := (hs.map fun k : Nat => (k : Int)).symm
    rw [List.map_append] at this
    exact ((order_perm h M).append_right _).trans this
theorem getD_of {rk : List Int} {P : Int → Prop} (h : ∀ e ∈ rk, P e) {k : Nat} (hk : k < rk.length) : P (rk.getD k 0) := h _ (getD_mem hk)
theorem order_all {rk : List Int} {M : Nat} (h : ∀ e ∈ rk, 0 ≤ e ∧ e < M) : (orderTo rk M).flatten.Perm ((List.range rk.length).map fun k : Nat => (k : Int)) := by
  have := order_perm (rk := rk) (fun k hk => (getD_of h hk).1) M
  rwa [List.filter_eq_self.mpr (fun k hk => decide_eq_true (getD_of h (List.mem_range.mp hk)).2)] at this
theorem range_nodup (n : Nat) : ((List.range n).map fun k : Nat => (k : Int)).Nodup := List.pairwise_map.mpr (List.nodup_range.imp fun h z => h (by omega))
theorem order_ok {rk : List Int} {M : Nat} (h : ∀ e ∈ rk, 0 ≤ e ∧ e < M) (hn : rk.length ≤ 1000) : OrdOk rk.length (orderTo rk M) := by
  have hp := order_all h
  refine ⟨fun g hg => ?_, fun g hg t ht => ?_, hp.nodup_iff.mpr (range_nodup _), by rw [hp.length_eq]; simp, hn⟩
  · obtain ⟨_, h2⟩ := List.mem_filter.mp hg
    intro z
    rw [z] at h2
    simp at h2
  · obtain ⟨h1, _⟩ := List.mem_filter.mp hg
    obtain ⟨r, _, rfl⟩ := List.mem_map.mp h1
    obtain ⟨k, hk, _, rfl⟩ := grp_mem.mp ht
    omega
/-! ranks out of orders -/
theorem setG_at (v : Int) : ∀ (g : List Int) (rk : List Int), (∀ t ∈ g, 0 ≤ t ∧ t < (rk.length : Int)) → ∀ t : Int, 0 ≤ t → (g.foldl (fun rk t => rk.set t.toNat v) rk).getD t.toNat 0 = if t ∈ g then v else rk.getD t.toNat 0
  | [], rk, _, t, _ => by simp
  | u :: g, rk, h, t, ht => by
    have hu := h u List.mem_cons_self
    rw [List.foldl_cons, setG_at v g _ (fun x hx => by rw [List.length_set]; exact h x (List.mem_cons_of_mem _ hx)) t ht]
    by_cases h1 : t ∈ g
    · rw [if_pos h1, if_pos (List.mem_cons_of_mem _ h1)]
    · rw [if_neg h1]
      by_cases h2 : t = u
      · subst h2
        rw [if_pos List.mem_cons_self, List.getD_eq_getElem?_getD, List.getElem?_set_self (by omega)]
        rfl
      · rw [if_neg (fun z => (List.mem_cons.mp z).elim h2 h1), List.getD_eq_getElem?_getD, List.getElem?_set_ne (by omega), ← List.getD_eq_getElem?_getD]
theorem rank_fold : ∀ (l : List (List Int)) (k : Nat) (rk : List Int), (∀ g ∈ l, ∀ t ∈ g, 0 ≤ t ∧ t < (rk.length : Int)) → l.flatten.Nodup →
    (∀ t : Int, 0 ≤ t → t ∉ l.flatten → ((l.zipIdx k).foldl rankG rk).getD t.toNat 0 = rk.getD t.toNat 0) ∧ ∀ (i : Nat) (g : List Int) (t : Int), l[i]? = some g → t ∈ g → ((l.zipIdx k).foldl rankG rk).getD t.toNat 0 = ((k + i : Nat) : Int)
  | [], k, rk, _, _ => ⟨fun t _ _ => rfl, fun i g t h => by simp at h⟩
  | g :: l, k, rk, h, nd => by
    rw [List.flatten_cons] at nd
    obtain ⟨n1, n2, n3⟩ := List.nodup_append.mp nd
    have hl : (rankG rk (g, k)).length = rk.length := rankG_len rk (g, k)
    have hg := h g List.mem_cons_self
    obtain ⟨i1, i2⟩ := rank_fold l (k + 1) (rankG rk (g, k)) (fun g' hg' t ht => by rw [hl]; exact h g' (List.mem_cons_of_mem _ hg') t ht) n2
    have hs := setG_at (k : Int) g rk hg
    rw [List.zipIdx_cons, List.foldl_cons]
    refine ⟨fun t h0 hn => ?_, fun i g' t hi ht => ?_⟩
    · rw [List.flatten_cons, List.mem_append] at hn
      rw [i1 t h0 fun z => hn (.inr z)]
      refine (hs t h0).trans ?_
      rw [if_neg fun z => hn (.inl z)]
    · cases i with
      | zero =>
        obtain rfl := Option.some.inj (by simpa using hi)
        rw [i1 t (hg t ht).1 fun z => n3 t ht t z rfl]
        refine (hs t (hg t ht).1).trans ?_
        rw [if_pos ht]
        rfl
      | succ i =>
        rw [i2 i g' t (by simpa using hi) ht]
        omega
theorem rank_at {n : Nat} {l : List (List Int)} (h : ∀ g ∈ l, ∀ t ∈ g, 0 ≤ t ∧ t < (n : Int)) (nd : l.flatten.Nodup) {i : Nat} {g : List Int} {t : Int} (hi : l[i]? = some g) (ht : t ∈ g) : (rankL n l).getD t.toNat 0 = i := by
  have := (rank_fold l 0 (List.replicate n 0) (fun g hg t ht => by rw [List.length_replicate]; exact h g hg t ht) nd).2 i g t hi ht
  rw [Nat.zero_add] at this
  exact this
theorem sort_flat : ∀ l : List (List Int), (l.map sortI).flatten.Perm l.flatten
  | [] => .nil
  | g :: l => by
    rw [List.map_cons, List.flatten_cons, List.flatten_cons]
    exact (sortI_perm g).append (sort_flat l)
def vals (rk : List Int) (M : Nat) : List Nat := (List.range M).filter fun r => decide (0 < (grp rk r).length)
theorem orderTo_map (rk : List Int) (M : Nat) : orderTo rk M = (vals rk M).map (grp rk) := by
  unfold orderTo vals
  rw [List.filter_map]
  rfl
theorem vals_sorted (rk : List Int) (M : Nat) : (vals rk M).Pairwise (· < ·) := List.Pairwise.filter _ List.pairwise_lt_range
theorem rank_val {rk : List Int} {M : Nat} (h : ∀ e ∈ rk, 0 ≤ e ∧ e < M) (hn : rk.length ≤ 1000) {a : Nat} (ha : a < rk.length) : ∃ i v : Nat, (vals rk M)[i]? = some v ∧ rk.getD a 0 = v ∧ (rankL rk.length ((orderTo rk M).map sortI)).getD a 0 = i := by
  have O := order_ok h hn
  obtain ⟨h1, h2⟩ := getD_of h ha
  obtain ⟨v, hv⟩ := Int.eq_ofNat_of_zero_le h1
  have hm : (a : Int) ∈ grp rk v := grp_mem.mpr ⟨a, ha, hv, rfl⟩
  have hvv : v ∈ vals rk M := List.mem_filter.mpr ⟨List.mem_range.mpr (by omega), decide_eq_true (List.length_pos_of_mem hm)⟩
  obtain ⟨i, hi⟩ := List.mem_iff_getElem?.mp hvv
  refine ⟨i, v, hi, hv, ?_⟩
  have e : ((orderTo rk M).map sortI)[i]? = some (sortI (grp rk v)) := by
    rw [orderTo_map, List.map_map, List.getElem?_map, hi]
    rfl
  have := rank_at (n := rk.length) (l := (orderTo rk M).map sortI) (fun g hg t ht => by
    obtain ⟨g', hg', rfl⟩ := List.mem_map.mp hg
    exact O.rng g' hg' t ((sortI_perm g').mem_iff.mp ht)) ((sort_flat _).nodup_iff.mpr O.nd) e ((sortI_perm _).mem_iff.mpr hm)
  rwa [Int.toNat_natCast] at this
theorem rank_cmp {rk : List Int} {M : Nat} (h : ∀ e ∈ rk, 0 ≤ e ∧ e < M) (hn : rk.length ≤ 1000) {a b : Nat} (ha : a < rk.length) (hb : b < rk.length) :
    ((rankL rk.length ((orderTo rk M).map sortI)).getD a 0 < (rankL rk.length ((orderTo rk M).map sortI)).getD b 0 ↔ rk.getD a 0 < rk.getD b 0) ∧ ((rankL rk.length ((orderTo rk M).map sortI)).getD a 0 = (rankL rk.length ((orderTo rk M).map sortI)).getD b 0 ↔ rk.getD a 0 = rk.getD b 0) := by
  obtain ⟨i, v, h1, h2, h3⟩ := rank_val h hn ha
  obtain ⟨j, u, k1, k2, k3⟩ := rank_val h hn hb
  rw [h2, h3, k2, k3]
  have hs := vals_sorted rk M
  rw [List.pairwise_iff_getElem] at hs
  obtain ⟨x1, x2⟩ := List.getElem?_eq_some_iff.mp h1
  obtain ⟨y1, y2⟩ := List.getElem?_eq_some_iff.mp k1
  have lt : ∀ {p q : Nat} (hp : p < (vals rk M).length) (hq : q < (vals rk M).length), p < q → (vals rk M)[p] < (vals rk M)[q] := fun hp hq z => hs _ _ hp hq z
  rcases Nat.lt_trichotomy i j with z | z | z
  · have := lt x1 y1 z
    omega
  · subst z
    rw [x2] at y2
    omega
  · have := lt y1 x1 z
    omega
end G17
set_option Elab.async false
set_option linter.all false
set_option maxRecDepth 100000
set_option maxHeartbeats 4000000
set_option exponentiation.threshold 2000
namespace G17
open PySem PySem.Spec PyProof.Rows L2 L3
/-! ### sums -/
theorem sum_set : ∀ {l : List Int} {i : Nat} {v : Int}, i < l.length → (l.set i v).sum = l.sum - l.getD i 0 + v
  | [], _, _, h => absurd h (Nat.not_lt_zero _)
  | x :: l, 0, v, _ => by simp; omega
  | x :: l, i + 1, v, h => by
    have := sum_set (l := l) (i := i) (v := v) (by simpa using h)
    simp only [List.set_cons_succ, List.sum_cons, List.getD_cons_succ, this]
    omega
theorem sum_getD : ∀ {l : List Int} {n : Nat}, l.length = n → ((List.range n).map fun k => l.getD k 0).sum = l.sum
  | [], n, h => by
    obtain rfl : n = 0 := by simpa using h.symm
    rfl
  | x :: l, n, h => by
    obtain ⟨m, rfl⟩ : ∃ m, n = m + 1 := ⟨l.length, by simpa using h.symm⟩
    rw [List.range_succ_eq_map, List.map_cons, List.sum_cons, List.map_map, List.sum_cons]
    have := sum_getD (l := l) (n := m) (by simpa using h)
    show x + ((List.range m).map fun k => l.getD k 0).sum = _
    rw [this]
theorem sum_addf (f g : Nat → Int) : ∀ l : List Nat, (l.map fun k => f k + g k).sum = (l.map f).sum + (l.map g).sum
  | [] => rfl
  | x :: l => by
    simp only [List.map_cons, List.sum_cons, sum_addf f g l]
    omega
theorem sum_zero {α : Type} : ∀ l : List α, (l.map fun _ => (0 : Int)).sum = 0
  | [] => rfl
  | x :: l => by simp [sum_zero l]
theorem sum_cols {n : Nat} : ∀ {R : List (List Int)}, (∀ r ∈ R, r.length = n) → ((List.range n).map (col R)).sum = (R.map List.sum).sum
  | [], _ => by
    show ((List.range n).map fun k => (0 : Int)).sum = 0
    exact sum_zero _
  | r :: R, h => by
    have e : (List.range n).map (col (r :: R)) = (List.range n).map fun k => r.getD k 0 + col R k := rfl
    rw [e, sum_addf, sum_getD (h r List.mem_cons_self), sum_cols fun x hx => h x (List.mem_cons_of_mem _ hx)]
    rfl
theorem sum_const {W : Int} : ∀ {R : List (List Int)}, (∀ r ∈ R, r.sum = W) → (R.map List.sum).sum = R.length * W
  | [], _ => by simp
  | r :: R, h => by
    rw [List.map_cons, List.sum_cons, h r List.mem_cons_self, sum_const fun x hx => h x (List.mem_cons_of_mem _ hx), List.length_cons]
    push_cast
    rw [Int.add_mul]
    omega
theorem sum_le {f g : Nat → Int} : ∀ {l : List Nat}, (∀ k ∈ l, f k ≤ g k) → (l.map f).sum ≤ (l.map g).sum
  | [], _ => Int.le_refl _
  | x :: l, h => by
    have h1 := h x List.mem_cons_self
    have h2 := sum_le (l := l) fun k hk => h k (List.mem_cons_of_mem _ hk)
    simp only [List.map_cons, List.sum_cons]
    omega
theorem sum_mulr (W : Int) (f : Nat → Int) : ∀ l : List Nat, (l.map fun k => f k * W).sum = (l.map f).sum * W
  | [] => by simp
  | x :: l => by simp only [List.map_cons, List.sum_cons, sum_mulr W f l, Int.add_mul]
theorem col_nn {R : List (List Int)} (h : ∀ r ∈ R, ∀ e ∈ r, 0 ≤ e) (k : Nat) : 0 ≤ col R k := by
  induction R with
  | nil => exact Int.le_refl _
  | cons r R ih =>
    have h1 := getD_nn (h r List.mem_cons_self) k
    have h2 := ih fun r hr => h r (List.mem_cons_of_mem _ hr)
    show 0 ≤ r.getD k 0 + col R k
    omega
theorem getD_le {r : List Int} {W : Int} (h : ∀ e ∈ r, e ≤ W) (hW : 0 ≤ W) (k : Nat) : r.getD k 0 ≤ W := by
  rw [List.getD_eq_getElem?_getD]
  cases e : r[k]? with
  | none => exact hW
  | some x => exact h x (List.mem_of_getElem? e)
theorem col_le {R : List (List Int)} {W : Int} (h : ∀ r ∈ R, ∀ e ∈ r, e ≤ W) (hW : 0 ≤ W) (k : Nat) : col R k ≤ R.length * W := by
  induction R with
  | nil => simp [col]
  | cons r R ih =>
    have h1 := getD_le (h r List.mem_cons_self) hW k
    have h2 := ih fun r hr => h r (List.mem_cons_of_mem _ hr)
    show r.getD k 0 + col R k ≤ _
    rw [List.length_cons]
    push_cast
    rw [Int.add_mul]
    omega
/-! ### rows -/
def wof (tk : List Int) : Int := 3 + tk.getD 0 0 + tk.getD 1 0 + tk.getD 2 0
theorem rowOf_three (deal tn tk : List Int) (n i : Nat) : rowOf deal tn tk n i 3 = addAt deal tn tk i (addAt deal tn tk i (addAt deal tn tk i (List.replicate n 0) 0) 1) 2 := by
  rw [rowOf_succ, rowOf_succ, rowOf_succ]
  rfl
theorem addAt_facts {deal tn tk r : List Int} {n i k : Nat} (hd : ∀ e ∈ deal, 0 ≤ e ∧ e < n) (hp : 1 ≤ deal.length) (hl : r.length = n) (hk : 0 ≤ tk.getD k 0) (hr : ∀ e ∈ r, 0 ≤ e) :
    (addAt deal tn tk i r k).length = n ∧ (∀ e ∈ addAt deal tn tk i r k, 0 ≤ e) ∧ (addAt deal tn tk i r k).sum = r.sum + 1 + tk.getD k 0 ∧
      ∀ t, (addAt deal tn tk i r k).getD t 0 = r.getD t 0 + if at_ deal tn i k = t then 1 + tk.getD k 0 else 0 := by
  have m1 := Int.emod_nonneg ((i : Int) + tn.getD k 0) (show (deal.length : Int) ≠ 0 by omega)
  have m2 := Int.emod_lt_of_pos ((i : Int) + tn.getD k 0) (show (0 : Int) < deal.length by omega)
  have hat := hd _ (getD_mem (z := 0) (show (((i : Int) + tn.getD k 0) % (deal.length : Int)).toNat < deal.length by omega))
  have ha : at_ deal tn i k < r.length := by
    unfold at_
    omega
  unfold addAt
  refine ⟨by rw [List.length_set, hl], fun e he => ?_, ?_, fun t => ?_⟩
  · rcases List.mem_or_eq_of_mem_set he with he | rfl
    · exact hr e he
    · have := getD_nn hr (at_ deal tn i k)
      omega
  · rw [sum_set ha]
    omega
  · by_cases z : at_ deal tn i k = t
    · subst z
      rw [getD_set_self ha, if_pos rfl]
      omega
    · rw [if_neg z, List.getD_eq_getElem?_getD, List.getElem?_set_ne z, ← List.getD_eq_getElem?_getD]
      omega
theorem rep_sum (n : Nat) : (List.replicate n (0 : Int)).sum = 0 := by
  induction n with
  | zero => rfl
  | succ n ih => rw [List.replicate_succ, List.sum_cons, ih]; rfl
theorem rep_getD (n t : Nat) : (List.replicate n (0 : Int)).getD t 0 = 0 := by
  rw [List.getD_eq_getElem?_getD]
  cases e : (List.replicate n (0 : Int))[t]? with
  | none => rfl
  | some x => exact (List.mem_replicate.mp (List.mem_of_getElem? e)).2
def hit (deal tn tk : List Int) (i t k : Nat) : Int := if at_ deal tn i k = t then 1 + tk.getD k 0 else 0
theorem row_facts {deal tn tk : List Int} {n i : Nat} (hd : ∀ e ∈ deal, 0 ≤ e ∧ e < n) (hp : 1 ≤ deal.length) (hk : ∀ e ∈ tk, 0 ≤ e) :
    (rowOf deal tn tk n i 3).length = n ∧ (∀ e ∈ rowOf deal tn tk n i 3, 0 ≤ e) ∧ (rowOf deal tn tk n i 3).sum = wof tk ∧ ∀ t, (rowOf deal tn tk n i 3).getD t 0 = hit deal tn tk i t 0 + hit deal tn tk i t 1 + hit deal tn tk i t 2 := by
  rw [rowOf_three]
  obtain ⟨a1, a2, a3, a4⟩ := addAt_facts (tn := tn) (tk := tk) (i := i) (k := 0) hd hp (List.length_replicate (n := n) (a := 0)) (getD_nn hk 0) (fun e he => by rw [(List.mem_replicate.mp he).2]; omega)
  obtain ⟨b1, b2, b3, b4⟩ := addAt_facts (tn := tn) (tk := tk) (i := i) (k := 1) hd hp a1 (getD_nn hk 1) a2
  obtain ⟨c1, c2, c3, c4⟩ := addAt_facts (tn := tn) (tk := tk) (i := i) (k := 2) hd hp b1 (getD_nn hk 2) b2
  refine ⟨c1, c2, ?_, fun t => ?_⟩
  · rw [c3, b3, a3, rep_sum]
    unfold wof
    omega
  · rw [c4, b4, a4, rep_getD]
    unfold hit
    omega
/-! turned about -/
theorem rot_lt {p : Nat} (hp : 1 ≤ p) (x : Int) : (x % (p : Int)).toNat < p := by
  have := Int.emod_lt_of_pos x (show (0 : Int) < p by omega)
  have := Int.emod_nonneg x (show (p : Int) ≠ 0 by omega)
  omega
theorem perm_sub : ∀ {l m : List Nat}, l.Nodup → (∀ x ∈ l, x ∈ m) → m.length ≤ l.length → l.Perm m
  | [], m, _, _, h => by
    obtain rfl : m = [] := List.eq_nil_of_length_eq_zero (by simpa using h)
    exact .nil
  | a :: l, m, nd, hs, hl => by
    obtain ⟨n1, n2⟩ := List.nodup_cons.mp nd
    have hm := hs a List.mem_cons_self
    have ne : ∀ x ∈ l, x ≠ a := fun x hx z => n1 (z ▸ hx)
    have := perm_sub (m := m.erase a) n2 (fun x hx => (List.mem_erase_of_ne (ne x hx)).mpr (hs x (List.mem_cons_of_mem _ hx))) (by
      rw [List.length_erase_of_mem hm]
      simp only [List.length_cons] at hl
      omega)
    exact (this.cons a).trans (List.perm_cons_erase hm).symm
theorem perm_sum {l m : List Int} (h : l.Perm m) : l.sum = m.sum := by
  induction h with
  | nil => rfl
  | cons x _ ih => simp only [List.sum_cons, ih]
  | swap x y l => simp only [List.sum_cons]; omega
  | trans _ _ h1 h2 => exact h1.trans h2
def rot (p : Nat) (s : Int) (i : Nat) : Nat := (((i : Nat) : Int) + s) % (p : Int) |>.toNat
theorem rot_perm {p : Nat} (hp : 1 ≤ p) (s : Int) : ((List.range p).map (rot p s)).Perm (List.range p) := by
  have nd : ((List.range p).map (rot p s)).Nodup := by
    refine List.pairwise_map.mpr ((List.pairwise_lt_range (n := p)).imp_of_mem fun {a b} ha hb h z => ?_)
    have ha := List.mem_range.mp ha
    have hb := List.mem_range.mp hb
    unfold rot at z
    have h1 := Int.emod_nonneg ((a : Int) + s) (show (p : Int) ≠ 0 by omega)
    have h2 := Int.emod_nonneg ((b : Int) + s) (show (p : Int) ≠ 0 by omega)
    have z2 : ((a : Int) + s) % (p : Int) = ((b : Int) + s) % (p : Int) := by omega
    have h4 : (((b : Int) + s) - ((a : Int) + s)) % (p : Int) = 0 := by
      rw [Int.sub_emod, z2]
      simp
    have h5 : (((b : Int) + s) - ((a : Int) + s)) % (p : Int) = b - a := by
      rw [show ((b : Int) + s) - ((a : Int) + s) = b - a by omega]
      exact Int.emod_eq_of_lt (by omega) (by omega)
    omega
  refine perm_sub nd (fun x hx => ?_) (by simp)
  obtain ⟨i, _, rfl⟩ := List.mem_map.mp hx
  exact List.mem_range.mpr (rot_lt hp _)
def isT (deal : List Int) (t j : Nat) : Int := if (deal.getD j 0).toNat = t then 1 else 0
def cntT (deal : List Int) (t : Nat) : Int := ((List.range deal.length).map (isT deal t)).sum
theorem hit_eq (deal tn tk : List Int) (i t k : Nat) : hit deal tn tk i t k = isT deal t (rot deal.length (tn.getD k 0) i) * (1 + tk.getD k 0) := by
  unfold hit isT
  show (if (deal.getD (rot deal.length (tn.getD k 0) i) 0).toNat = t then _ else _) = _
  split <;> simp
theorem hit_sum {deal tn tk : List Int} (hp : 1 ≤ deal.length) (t k : Nat) : ((List.range deal.length).map fun i => hit deal tn tk i t k).sum = cntT deal t * (1 + tk.getD k 0) := by
  rw [List.map_congr_left fun i _ => hit_eq deal tn tk i t k, sum_mulr]
  congr 1
  have := perm_sum ((rot_perm hp (tn.getD k 0)).map (isT deal t))
  rwa [List.map_map] at this
theorem col_rows {ns deal : List Int} {n t : Nat} (hd : ∀ e ∈ deal, 0 ≤ e ∧ e < n) (hp : 1 ≤ deal.length) : col (rowsL ns deal n) t = cntT deal t * wof (drawn (cell ns 3) 3 (topOf (cell ns 1))) := by
  have hk : ∀ e ∈ drawn (cell ns 3) 3 (topOf (cell ns 1)), 0 ≤ e := fun e he => (drawn_in _ _ (topOf_in _).1 3 e he).1
  unfold col rowsL
  rw [List.map_map]
  have e : ∀ i ∈ List.range deal.length, ((fun r : List Int => r.getD t 0) ∘ fun i => rowOf deal (drawn (cell ns 2) 3 deal.length) (drawn (cell ns 3) 3 (topOf (cell ns 1))) n i 3) i = hit deal (drawn (cell ns 2) 3 deal.length) (drawn (cell ns 3) 3 (topOf (cell ns 1))) i t 0 + hit deal (drawn (cell ns 2) 3 deal.length) (drawn (cell ns 3) 3 (topOf (cell ns 1))) i t 1 + hit deal (drawn (cell ns 2) 3 deal.length) (drawn (cell ns 3) 3 (topOf (cell ns 1))) i t 2 := fun i _ => (row_facts hd hp hk).2.2.2 t
  rw [List.map_congr_left e, sum_addf, sum_addf, hit_sum hp, hit_sum hp, hit_sum hp]
  unfold wof
  simp only [Int.mul_add, Int.mul_one]
  omega
theorem isT_nn (deal : List Int) (t j : Nat) : 0 ≤ isT deal t j := by
  unfold isT
  split <;> omega
theorem sum_nn {l : List Nat} {f : Nat → Int} (h : ∀ k ∈ l, 0 ≤ f k) : 0 ≤ (l.map f).sum := by
  have := sum_le (f := fun _ => 0) (g := f) (l := l) h
  rwa [sum_zero] at this
theorem sum_one {l : List Nat} {f : Nat → Int} (h : ∀ k ∈ l, 0 ≤ f k) {j : Nat} (hj : j ∈ l) : f j ≤ (l.map f).sum := by
  induction l with
  | nil => cases hj
  | cons x l ih =>
    simp only [List.map_cons, List.sum_cons]
    have h1 := h x List.mem_cons_self
    have h2 := sum_nn fun k hk => h k (List.mem_cons_of_mem x hk)
    rcases List.mem_cons.mp hj with rfl | hj
    · omega
    · have := ih (fun k hk => h k (List.mem_cons_of_mem _ hk)) hj
      omega
theorem cnt_nn (deal : List Int) (t : Nat) : 0 ≤ cntT deal t := sum_nn fun k _ => isT_nn deal t k
theorem cnt_pos {deal : List Int} {t : Nat} (h : (t : Int) ∈ deal) : 1 ≤ cntT deal t := by
  obtain ⟨j, hj, e⟩ := List.mem_iff_getElem.mp h
  have h1 := sum_one (f := isT deal t) (fun k _ => isT_nn deal t k) (List.mem_range.mpr hj)
  have h2 : isT deal t j = 1 := by
    unfold isT
    rw [List.getD_eq_getElem?_getD, List.getElem?_eq_getElem hj]
    exact if_pos (show deal[j].toNat = t by omega)
  unfold cntT
  omega
end G17
set_option Elab.async false
set_option linter.all false
set_option maxRecDepth 100000
set_option maxHeartbeats 4000000
set_option exponentiation.threshold 2000
namespace G17
open PySem PySem.Spec PyProof.Rows L2 L3
/-! ### shares moved -/
theorem col_range (R : List (List Int)) (k : Nat) : col R k = ((List.range R.length).map fun i => (R.getD i []).getD k 0).sum := by
  have h := sum_getD (l := R.map fun r => r.getD k 0) (n := R.length) (by simp)
  unfold col
  rw [← h]
  congr 1
  refine List.map_congr_left fun i hi => ?_
  have hi := List.mem_range.mp hi
  rw [List.getD_eq_getElem?_getD, List.getElem?_map, List.getD_eq_getElem?_getD (l := R), List.getElem?_eq_getElem hi]
  rfl
theorem getD_set_ne {α : Type} {l : List α} {a i : Nat} {v d : α} (h : a ≠ i) : (l.set a v).getD i d = l.getD i d := by
  rw [List.getD_eq_getElem?_getD, List.getElem?_set_ne h, ← List.getD_eq_getElem?_getD]
structure Mv (p n : Nat) (W : Int) (lv : List Int) (R0 R : List (List Int)) : Prop where
  sq : Sq' p n R
  sum : ∀ r ∈ R, r.sum = W
  old : ∀ i k, lv.getD k 0 ≠ 0 → (R.getD i []).getD k 0 = (R0.getD i []).getD k 0
theorem move_mv {pl sh lv : List Int} {p : Nat} {W : Int} {R0 R : List (List Int)} {k : Nat} (h : Mv p lv.length W lv R0 R) (hs : ∀ e ∈ sh, 0 ≤ e) (hp : 1 ≤ p) (hc : 1 ≤ (cheapL lv).length) : Mv p lv.length W lv R0 (moveStep pl sh (cheapL lv) R k) := by
  refine ⟨moveStep_sq h.sq hs hp, ?_, ?_⟩
  · have h1 := Int.emod_nonneg (pl.getD k 0) (show (R.length : Int) ≠ 0 by have := h.sq.len; omega)
    have h2 := Int.emod_lt_of_pos (pl.getD k 0) (show (0 : Int) < R.length by have := h.sq.len; omega)
    have hm : R.getD (pl.getD k 0 % (R.length : Int)).toNat [] ∈ R := getD_mem (z := []) (by omega)
    obtain ⟨h3, h4⟩ := h.sq.row _ hm
    have h5 := h.sum _ hm
    obtain ⟨g1, g2, _⟩ := pick_lt (lv := lv) (v := pl.getD (k + 3) 0) hc
    obtain ⟨t1, t2, _⟩ := pick_lt (lv := lv) (v := pl.getD (k + 6) 0) hc
    unfold moveStep
    simp only
    intro r hr
    rcases List.mem_or_eq_of_mem_set hr with hr | rfl
    · exact h.sum r hr
    · rw [sum_set (by rw [List.length_set, h3]; exact t1), sum_set (by rw [h3]; exact g1), h5]
      omega
  · intro i j hj
    rw [← h.old i j hj]
    unfold moveStep
    simp only
    by_cases hl : (pl.getD k 0 % (R.length : Int)).toNat < R.length
    · by_cases z : (pl.getD k 0 % (R.length : Int)).toNat = i
      · obtain ⟨g1, g2, _⟩ := pick_lt (lv := lv) (v := pl.getD (k + 3) 0) hc
        obtain ⟨t1, t2, _⟩ := pick_lt (lv := lv) (v := pl.getD (k + 6) 0) hc
        rw [z] at hl ⊢
        have ng : pick (cheapL lv) (pl.getD (k + 3) 0) ≠ j := fun y => hj (y ▸ g2)
        have nt : pick (cheapL lv) (pl.getD (k + 6) 0) ≠ j := fun y => hj (y ▸ t2)
        rw [getD_set hl, List.getD_eq_getElem?_getD, List.getElem?_set_ne nt, List.getElem?_set_ne ng, ← List.getD_eq_getElem?_getD]
      · rw [getD_set_ne z]
    · rw [List.set_eq_of_length_le (by omega)]
theorem moved_mv {ns lv : List Int} {p : Nat} {W : Int} {R : List (List Int)} (h : Sq' p lv.length R) (hs : ∀ r ∈ R, r.sum = W) (hp : 1 ≤ p) : Mv p lv.length W lv R (movedL ns lv R) := by
  have h0 : Mv p lv.length W lv R R := ⟨h, hs, fun _ _ _ => rfl⟩
  unfold movedL
  split
  · exact h0
  · have key : ∀ m, Mv p lv.length W lv R (movedN (drawn (cell ns 6) 9 60) (drawn (cell ns 7) 3 (10 ^ 39)) (cheapL lv) R m) := by
      intro m
      induction m with
      | zero => exact h0
      | succ m ih =>
        unfold movedN at ih ⊢
        rw [List.range_succ, List.foldl_append]
        exact move_mv ih (fun e he => (drawn_in _ _ (by decide) 3 e he).1) hp (by omega)
    exact key 3
theorem Mv.col {p n : Nat} {W : Int} {lv : List Int} {R0 R : List (List Int)} (h : Mv p n W lv R0 R) (h0 : R0.length = p) {k : Nat} (hk : lv.getD k 0 ≠ 0) : col R k = col R0 k := by
  rw [col_range, col_range, h.sq.len, h0]
  congr 1
  exact List.map_congr_left fun i _ => h.old i k hk
theorem le_sum {r : List Int} (h : ∀ e ∈ r, 0 ≤ e) : ∀ e ∈ r, e ≤ r.sum := by
  induction r with
  | nil => intro e he; cases he
  | cons x r ih =>
    intro e he
    have h1 := h x List.mem_cons_self
    have h2 : 0 ≤ r.sum := by
      clear ih he h1
      induction r with
      | nil => exact Int.le_refl _
      | cons y r ih2 =>
        have := h y (List.mem_cons_of_mem _ List.mem_cons_self)
        have := ih2 fun e he => h e (by
          rcases List.mem_cons.mp he with rfl | he
          · exact List.mem_cons_self
          · exact List.mem_cons_of_mem _ (List.mem_cons_of_mem _ he))
        rw [List.sum_cons]
        omega
    rw [List.sum_cons]
    rcases List.mem_cons.mp he with rfl | he
    · omega
    · have := ih (fun e he => h e (List.mem_cons_of_mem _ he)) e he
      omega
theorem Mv.low {p n : Nat} {W : Int} {lv : List Int} {R0 R : List (List Int)} (h : Mv p n W lv R0 R) : Low p n W R :=
  ⟨h.sq.len, fun r hr => ⟨(h.sq.row r hr).1, fun e he => ⟨(h.sq.row r hr).2 e he, by have := le_sum (h.sq.row r hr).2 e he; rw [h.sum r hr] at this; exact this⟩, h.sum r hr⟩⟩
/-! ### the stock -/
theorem ceil_facts {c W : Int} (hW : 0 < W) (h0 : 0 ≤ c) (h1 : c ≤ 12 * W) : 0 ≤ (c + W - 1) / W ∧ (c + W - 1) / W ≤ 12 ∧ c ≤ (c + W - 1) / W * W ∧ ∀ q, c = q * W → (c + W - 1) / W = q := by
  have a1 := Int.ediv_mul_le (c + W - 1) (show W ≠ 0 by omega)
  have a2 := Int.lt_ediv_add_one_mul_self (c + W - 1) hW
  have a3 : 0 ≤ (c + W - 1) / W := Int.ediv_nonneg (by omega) (by omega)
  have e2 : ∀ q, c = q * W → (c + W - 1) / W = q := fun q hq => by
    rw [hq, show q * W + W - 1 = (W - 1) + q * W by omega, Int.add_mul_ediv_right _ _ (by omega), Int.ediv_eq_zero_of_lt (by omega) (by omega)]
    omega
  generalize (c + W - 1) / W = z at a1 a2 a3 e2
  rw [Int.add_mul] at a2
  refine ⟨a3, Decidable.byContradiction fun y => ?_, by omega, e2⟩
  have := Int.mul_le_mul_of_nonneg_right (show 13 ≤ z by omega) (show 0 ≤ W by omega)
  omega
theorem stock_facts {lv more : List Int} {rows : List (List Int)} {W : Int} {k : Nat} (hW : 0 < W) (h0 : 0 ≤ col rows k) (h1 : col rows k ≤ 12 * W) (hm : 0 ≤ more.getD k 0) :
    (1 ≤ stockAt lv more rows W k ∧ stockAt lv more rows W k ≤ 12) ∧ col rows k ≤ stockAt lv more rows W k * W ∧ ∀ q, 1 ≤ q → lv.getD k 0 ≠ 0 → col rows k = q * W → stockAt lv more rows W k * W = col rows k := by
  obtain ⟨c1, c2, c3, c4⟩ := ceil_facts hW h0 h1
  unfold stockAt
  generalize (col rows k + W - 1) / W = z at c1 c2 c3 c4
  have hz : z ≤ max 1 z := by omega
  have key : ∀ s, z ≤ s → col rows k ≤ s * W := fun s hs => Int.le_trans c3 (Int.mul_le_mul_of_nonneg_right hs (by omega))
  split
  · rename_i hl
    exact ⟨by omega, key _ (by omega), fun q _ hn => absurd hl hn⟩
  · refine ⟨by omega, key _ (by omega), fun q hq _ e => ?_⟩
    have := c4 q e
    rw [show max 1 z = q by omega, e]
theorem stock_sum {p n : Nat} {W : Int} {st : List Int} {R : List (List Int)} (hW : 0 < W) (L : Low p n W R) (hl : st.length = n) (h : ∀ k, k < n → col R k ≤ st.getD k 0 * W) : (p : Int) ≤ st.sum := by
  have h1 := sum_cols (n := n) fun r hr => (L.row r hr).1
  rw [sum_const fun r hr => (L.row r hr).2.2, L.len] at h1
  have h2 := sum_le (f := col R) (g := fun k => st.getD k 0 * W) (l := List.range n) fun k hk => h k (List.mem_range.mp hk)
  rw [h1, sum_mulr, sum_getD hl] at h2
  exact Int.le_of_mul_le_mul_right h2 hW
/-! ### the ranks -/
theorem dst_le12 {lv : List Int} (hl : lv.length ≤ 12) (k : Nat) : (dst (above lv k)).length ≤ 12 := by
  have h1 := dst_le (above lv k)
  have h2 : (above lv k).length ≤ lv.length := List.length_filter_le _ _
  omega
theorem rank_rng {ns lv row : List Int} {i : Nat} (hl : lv.length ≤ 12) : ∀ e ∈ ranksL ns lv row i, 0 ≤ e ∧ e ≤ 100 := by
  intro e he
  unfold ranksL at he
  obtain ⟨k, hk, rfl⟩ := List.mem_map.mp he
  have h1 := dst_le12 hl k
  have h2 : ∀ x ∈ drawn (cell ns (16 + i)) lv.length 4, 0 ≤ x ∧ x < 4 := drawn_in _ 4 (by decide) _
  have h3 := getD_nn (fun e he => (h2 e he).1) k
  have h4 := getD_le (W := 4) (fun e he => by have := (h2 e he).2; omega) (by decide) k
  unfold rankAt
  split <;> omega
theorem rank_ge {lv row later : List Int} (h : ∀ e ∈ later, 0 ≤ e) (k : Nat) : 2 * ((dst (above lv k)).length : Int) ≤ rankAt lv row later k ∧ (row.getD k 0 ≠ 0 → rankAt lv row later k = 2 * ((dst (above lv k)).length : Int)) := by
  have := getD_nn h k
  unfold rankAt
  split
  · rename_i z
    exact ⟨by omega, fun y => absurd z y⟩
  · exact ⟨Int.le_refl _, fun _ => rfl⟩
theorem getD_mapr {f : Nat → Int} {n k : Nat} (h : k < n) : ((List.range n).map f).getD k 0 = f k := by
  rw [List.getD_eq_getElem?_getD, List.getElem?_map, List.getElem?_range h]
  rfl
theorem agr_made {ns lv row : List Int} {i : Nat} : Agr lv.length (ranksL ns lv row i) row lv := by
  intro h hh hpos o ho
  have hn : ∀ e ∈ drawn (cell ns (16 + i)) lv.length 4, 0 ≤ e := fun e he => (drawn_in _ 4 (by decide) _ e he).1
  have e1 : (ranksL ns lv row i).getD h 0 = rankAt lv row (drawn (cell ns (16 + i)) lv.length 4) h := getD_mapr hh
  have e2 : (ranksL ns lv row i).getD o 0 = rankAt lv row (drawn (cell ns (16 + i)) lv.length 4) o := getD_mapr ho
  have h1 := (rank_ge (lv := lv) (row := row) hn h).2 (by omega)
  have h2 := (rank_ge (lv := lv) (row := row) hn o).1
  unfold AgO
  rw [e1, e2, h1]
  constructor
  · rintro ⟨a, b⟩
    have := dst_mono (l := above lv h) (m := above lv o) fun x hx => by
      obtain ⟨x1, x2⟩ := List.mem_filter.mp hx
      exact List.mem_filter.mpr ⟨x1, decide_eq_true (by have := of_decide_eq_true x2; omega)⟩
    omega
  · rintro ⟨a, b⟩
    have := dst_lt (l := above lv h) (m := above lv o) (a := lv.getD h 0) (fun x hx => by
      obtain ⟨x1, x2⟩ := List.mem_filter.mp hx
      exact List.mem_filter.mpr ⟨x1, decide_eq_true (by have := of_decide_eq_true x2; omega)⟩) (List.mem_filter.mpr ⟨getD_mem hh, decide_eq_true b⟩) (fun z => by
      have := of_decide_eq_true (List.mem_filter.mp z).2
      omega)
    omega
/-! ### the same with the table's rows -/
def freeL (n : Nat) (st : List Int) (rows : List (List Int)) (W : Int) : List Int := (List.range n).map fun k => st.getD k 0 * W - col rows k
theorem div_pos' {e g : Int} (hg : 0 < g) (hd : g ∣ e) : (0 < e / g ↔ 0 < e) := by
  have h := Int.ediv_mul_cancel hd
  generalize e / g = q at h
  subst h
  constructor
  · exact fun z => Int.mul_pos z hg
  · intro z
    exact Decidable.byContradiction fun y => by
      have := Int.mul_le_mul_of_nonneg_right (show q ≤ 0 by omega) (show 0 ≤ g by omega)
      omega
theorem col_div {g : Int} (k : Nat) : ∀ {rows : List (List Int)}, (∀ r ∈ rows, ∀ e ∈ r, g ∣ e) → col (rows.map fun r => r.map fun e => e / g) k * g = col rows k
  | [], _ => by simp [col]
  | r :: rows, h => by
    have ih := col_div (g := g) k (rows := rows) fun r hr => h r (List.mem_cons_of_mem _ hr)
    show ((r.map fun e => e / g).getD k 0 + col (rows.map fun r => r.map fun e => e / g) k) * g = r.getD k 0 + col rows k
    rw [Int.add_mul, ih]
    congr 1
    rw [List.getD_eq_getElem?_getD, List.getElem?_map, List.getD_eq_getElem?_getD]
    cases e : r[k]? with
    | none => simp
    | some x => exact Int.ediv_mul_cancel (h r List.mem_cons_self x (List.mem_of_getElem? e))
theorem getD_div {g : Int} {r : List Int} (k : Nat) : (r.map fun e => e / g).getD k 0 = r.getD k 0 / g := by
  rw [List.getD_eq_getElem?_getD, List.getElem?_map, List.getD_eq_getElem?_getD]
  cases e : r[k]? <;> simp
theorem red_at {rows : List (List Int)} {W : Int} (i : Nat) : (redRows rows W).getD i [] = (rows.getD i []).map fun e => e / com W rows := by
  unfold redRows
  rw [List.getD_eq_getElem?_getD, List.getElem?_map, List.getD_eq_getElem?_getD]
  cases e : rows[i]? <;> simp
theorem getD_dvd {g : Int} {r : List Int} (h : ∀ e ∈ r, g ∣ e) (k : Nat) : g ∣ r.getD k 0 := by
  rw [List.getD_eq_getElem?_getD]
  cases e : r[k]? with
  | none => exact Int.dvd_zero _
  | some x => exact h x (List.mem_of_getElem? e)
abbrev ordO (rks : List (List Int)) : List (List (List Int)) := rks.map orderL
abbrev srtO (rks : List (List Int)) : List (List (List Int)) := (ordO rks).map fun l => l.map sortI
theorem ord_at {rk : List Int} (h : ∀ e ∈ rk, 0 ≤ e ∧ e ≤ 100) (hn : 1 ≤ rk.length) : ∀ e ∈ rk, 0 ≤ e ∧ e < ((maxI 0 rk + 1).toNat : Int) := by
  intro e he
  have ne : rk ≠ [] := fun z => by rw [z] at hn; simp at hn
  have h1 := (maxI_iff (d := 0) (k := maxI 0 rk) ne).mp (Int.le_refl _) e he
  have := h e he
  omega
theorem agr_same {rk row lv : List Int} {n : Nat} {g : Int} (hg : 0 < g) (hd : ∀ e ∈ row, g ∣ e) (h : ∀ e ∈ rk, 0 ≤ e ∧ e ≤ 100) (hl : rk.length = n) (hn : 1 ≤ n ∧ n ≤ 1000) :
    Agr n (rankL n ((orderL rk).map sortI)) (row.map fun e => e / g) lv ↔ Agr n rk row lv := by
  subst hl
  have hc := fun {a b : Nat} (ha : a < rk.length) (hb : b < rk.length) => rank_cmp (ord_at h hn.1) hn.2 ha hb
  have ho : ∀ a b, a < rk.length → b < rk.length → (AgO (rankL rk.length ((orderL rk).map sortI)) lv a b ↔ AgO rk lv a b) := fun a b ha hb => by
    unfold AgO
    obtain ⟨h1, h2⟩ := hc hb ha
    rw [show (rankL rk.length ((orderL rk).map sortI)).getD b 0 < (rankL rk.length ((orderL rk).map sortI)).getD a 0 ↔ _ from h1, show (rankL rk.length ((orderL rk).map sortI)).getD b 0 = (rankL rk.length ((orderL rk).map sortI)).getD a 0 ↔ _ from h2]
  have hp : ∀ a, (0 < (row.map fun e => e / g).getD a 0 ↔ 0 < row.getD a 0) := fun a => by
    rw [getD_div]
    exact div_pos' hg (getD_dvd hd a)
  unfold Agr AgH
  constructor
  · intro z a ha hpos o hlo
    exact (ho a o ha hlo).mp (z a ha ((hp a).mpr hpos) o hlo)
  · intro z a ha hpos o hlo
    exact (ho a o ha hlo).mpr (z a ha ((hp a).mp hpos) o hlo)
theorem due_same {p n : Nat} {W : Int} {rows rks : List (List Int)} {st lv : List Int} (L : LowT p n W rows) (hr : rks.length = p) (h1 : ∀ r ∈ rks, r.length = n ∧ ∀ e ∈ r, 0 ≤ e ∧ e ≤ 100) :
    Due n ((srtO rks).map (rankL n)) (redRows rows W) (spareL n st (redRows rows W) (W / com W rows)) lv ↔ Due n rks rows (freeL n st rows W) lv := by
  have hg := com_pos L.w1 rows
  obtain ⟨d1, d2⟩ := com_dvd rows W
  have hlen : (redRows rows W).length = rows.length := by unfold redRows; rw [List.length_map]
  unfold Due
  rw [hlen]
  have hfree : ∀ k, k < n → (FreeOk n (spareL n st (redRows rows W) (W / com W rows)) lv k ↔ FreeOk n (freeL n st rows W) lv k) := fun k hk => by
    have e1 : (spareL n st (redRows rows W) (W / com W rows)).getD k 0 = st.getD k 0 * (W / com W rows) - col (redRows rows W) k := getD_mapr hk
    have e2 : (freeL n st rows W).getD k 0 = st.getD k 0 * W - col rows k := getD_mapr hk
    have e3 := col_div (g := com W rows) k (rows := rows) d2
    have e4 := Int.ediv_mul_cancel d1
    have e5 : (st.getD k 0 * (W / com W rows) - col (redRows rows W) k) * com W rows = st.getD k 0 * W - col rows k := by
      rw [Int.sub_mul, Int.mul_assoc, e4]
      unfold redRows
      rw [e3]
    unfold FreeOk
    rw [e1, e2, ← e5]
    have : 0 < (st.getD k 0 * (W / com W rows) - col (redRows rows W) k) * com W rows ↔ 0 < st.getD k 0 * (W / com W rows) - col (redRows rows W) k := by
      have := div_pos' hg (Int.dvd_mul_left (st.getD k 0 * (W / com W rows) - col (redRows rows W) k) (com W rows))
      rw [Int.mul_ediv_cancel _ (by omega)] at this
      exact this.symm
    rw [this]
  have hag : ∀ i, i < rows.length → (Agr n (((srtO rks).map (rankL n)).getD i []) ((redRows rows W).getD i []) lv ↔ Agr n (rks.getD i []) (rows.getD i []) lv) := fun i hi => by
    have hi2 : i < rks.length := by rw [hr, ← L.L.len]; exact hi
    have hm : rks.getD i [] ∈ rks := getD_mem hi2
    have hm2 : rows.getD i [] ∈ rows := getD_mem hi
    have e : ((srtO rks).map (rankL n)).getD i [] = rankL n ((orderL (rks.getD i [])).map sortI) := by
      rw [List.getD_eq_getElem?_getD, List.getElem?_map, List.getElem?_map, List.getElem?_map, List.getD_eq_getElem?_getD, List.getElem?_eq_getElem hi2]
      rfl
    rw [e, red_at]
    exact agr_same hg (d2 _ hm2) (h1 _ hm).2 (h1 _ hm).1 ⟨L.n1.1, by have := L.n1; omega⟩
  constructor
  · rintro ⟨a, b, c⟩
    exact ⟨a, fun k hk => (hfree k hk).mp (b k hk), fun i hi => (hag i hi).mp (c i hi)⟩
  · rintro ⟨a, b, c⟩
    exact ⟨a, fun k hk => (hfree k hk).mpr (b k hk), fun i hi => (hag i hi).mpr (c i hi)⟩
end G17
set_option Elab.async false
set_option linter.all false
set_option maxRecDepth 100000
set_option maxHeartbeats 4000000
set_option exponentiation.threshold 2000
namespace G17
open PySem PySem.Spec PyProof.Rows L2 L3
section
variable {w : World} {K : PySem.W.Frag} {mg : Str → Option Value} {base : Heap}
/-! ### _law_refused -/
abbrev pair (a : Str) (x : D) : D := .tup [.str a, x]
inductive R_lr (MF W TB PR : Addr) : List D → Rs → Prop
  | mis (a b c : List (Str × D)) (x : D) (h : R_show MF W TB PR [.obj W a, .obj TB b, .obj PR c] (.exc MF "thing" x)) : R_lr MF W TB PR [.obj W a, .obj TB b, .obj PR c] (.d (pair "misfit" x))
  | none (a b c : List (Str × D)) (x : D) (h : R_show MF W TB PR [.obj W a, .obj TB b, .obj PR c] (.d x)) : R_lr MF W TB PR [.obj W a, .obj TB b, .obj PR c] (.d (pair "none" (.int 0)))
theorem ok__law_refused (T : Tx K mg) : ∃ fd, FnOk pw w K mg base (L2.CX pw w) 6 (He.ga K "_law_refused") fd ["wishes", "table", "prices"] (spR K (R_lr (He.ga K "Misfit") (He.ga K "Wishes") (He.ga K "Table") (He.ga K "Prices"))) ∧ Binds K fd ["wishes", "table", "prices"] [] ∧ PySem.W.keepIn K (.ref (He.ga K "_law_refused")) = true := by
  obtain ⟨fd_shows_prices, F_shows_prices, b_shows_prices, k_shows_prices⟩ := ok_shows_prices (w := w) (base := base) T
  obtain ⟨fd, FD⟩ := T.c.def_ 21 (d := d__law_refused) rfl
  have sc := sc__law_refused
  refine ⟨fd, fnR FD sc (fun ds r h => by cases h <;> rfl) fun cdv A outer s H E hr ds r hR => ⟨_, (pss_cons (ps_tryK (K := K) rfl rfl rfl (takes_of rfl rfl rfl rfl) (fun W pn xe tk hp => (pss_one (ps_expr (pe_callSD F_shows_prices (hr.mono (by decide)) rfl (g_shows_prices T) k_shows_prices b_shows_prices .nil (fun σ => passAt tk σ) (pa_cons (pv 0) (pa_cons (pv 1) (pa_cons (pv 2) pa_nil))))))) (Sy.HdsN.as (i := 3) sc.nd rfl rfl ⟨rfl, by decide, .inl (g_Misfit T)⟩ (fun a oe cls d pn hz hf => (pss_one (ps_ret (pe_tup (pa_cons pe_str (pa_cons (pe_xf (fx_xf_Misfit T).1 (fx_xf_Misfit T).2 hz hf (pv 3) rfl) pa_nil)))))) (Sy.HdsN.one ⟨rfl, by decide, .inl (g_DealError T)⟩ (fun a oe cls d pn hz hf => (pss_one (ps_ret (pe_tup (pa_cons pe_str (pa_cons pe_int pa_nil)))))) Sy.HdsN.nil))) (pss_one (ps_ret (pe_tup (pa_cons pe_str (pa_cons pe_int pa_nil)))))), ?_⟩, FD.bindsN fun _ _ _ _ _ _ us hl => match us, hl with | [_, _, _], _ => rfl, FD.kp⟩
  intro F xw
  cases hR with
  | mis a b c x h =>
    refine q_seq (s_tryK (fun δ2 C f y => δ2 = [.d (.obj (He.ga K "Wishes") a), .d (.obj (He.ga K "Table") b), .d (.obj (He.ga K "Prices") c), .un] ∧ C = He.ga K "Misfit" ∧ f = "thing" ∧ y = x) xw (fun W Fb Hb xw => ?_) (fun δ2 C f y hp => ?_))
    · exact sx_drop (evx_call (eva_cons (ev_var rfl) (eva_cons (ev_var rfl) (eva_cons (ev_var rfl) eva_nil))) h xw ⟨rfl, rfl, rfl, rfl⟩)
    · obtain ⟨rfl, rfl, rfl, rfl⟩ := hp
      exact ⟨true, exm_Misfit_Misfit T, fun _ a dd => s_ret (ev_tup (eva_cons ev_str (eva_cons (ev_xf rfl) eva_nil))) rfl, fun z => Bool.noConfusion z⟩
  | none a b c x h =>
    refine q_seq (s_tryK (fun _ _ _ _ => False) xw (fun W Fb Hb xw => ?_) (fun δ2 C f x hp => hp.elim))
    refine s_drop (ev_callX (eva_cons (ev_var rfl) (eva_cons (ev_var rfl) (eva_cons (ev_var rfl) eva_nil))) h) ?_
    refine s_ret (ev_tup (eva_cons ev_str (eva_cons ev_int eva_nil))) ?_
    rfl
/-! ### _law_misfits -/
theorem okP_pr {a : Str} {x : D} (ha : PyData.strOk a = true) (hx : okP 7 x = true) : okP 8 (.tup [.str a, x]) = true := okP_pair ha hx
theorem eqP_pr (a b : Str) (x y : D) (c : Bool) (h : eqP x y = c) : eqP (pair a x) (pair b y) = (decide (a = b) && c) := eqP_cons (eqP_str a b) ((eqP_cons h eqP_nil).trans (Bool.and_true _))
theorem sum_replicate' (n : Nat) (a : Int) : (List.replicate n a).sum = n * a := by
  induction n with
  | zero => simp
  | succ n ih =>
    rw [List.replicate_succ, List.sum_cons, ih]
    push_cast
    rw [Int.add_mul]
    omega
inductive R_mf (PR : Addr) : List D → Rs → Prop
  | mk (ns : List Int) (p n : Nat) (W : Int) (os : List (List (List Int))) (rows : List (List Int)) (st lv : List Int) (L : LowT p n W rows) (n2 : 2 ≤ n) (hs : WOk n os st) (ho : os.length = p) (hl : lv.length ≤ 1000) :
      R_mf PR [.scr ns, eL (eL (eL D.int)) os, eL (eL D.int) rows, .int W, eL D.int st, .obj PR (prFs lv)] (.d (.bl true))
theorem col_tight {p n : Nat} {W : Int} {rows : List (List Int)} (L : LowT p n W rows) (c : Int) (k : Nat) : c * (W / com W rows) < col (redRows rows W) k ↔ c * W < col rows k := by
  have hg := com_pos L.w1 rows
  obtain ⟨d1, d2⟩ := com_dvd rows W
  have e3 := col_div (g := com W rows) k (rows := rows) d2
  have e4 := Int.ediv_mul_cancel d1
  have e5 : c * W = c * (W / com W rows) * com W rows := by rw [Int.mul_assoc, e4]
  rw [e5, ← e3]
  unfold redRows
  constructor
  · exact fun z => Int.mul_lt_mul_of_pos_right z hg
  · exact fun z => Int.lt_of_mul_lt_mul_right z (by omega)
theorem ok__law_misfits (T : Tx K mg) : ∃ fd, FnOk pw w K mg base (L2.CX pw w) 8 (He.ga K "_law_misfits") fd ["script", "orders", "rows", "whole", "stock", "prices"] (spR K (R_mf (He.ga K "Prices"))) ∧ Binds K fd ["script", "orders", "rows", "whole", "stock", "prices"] [] ∧ PySem.W.keepIn K (.ref (He.ga K "_law_misfits")) = true := by
  obtain ⟨fd__law_cell, F__law_cell, b__law_cell, k__law_cell⟩ := ok__law_cell (w := w) (base := base) T
  obtain ⟨fdI_Wishes, I_Wishes, bI_Wishes⟩ := mkI_Wishes (w := w) (base := base) T
  obtain ⟨fdI_Table, I_Table, bI_Table⟩ := mkI_Table (w := w) (base := base) T
  obtain ⟨fd__law_refused, F__law_refused, b__law_refused, k__law_refused⟩ := ok__law_refused (w := w) (base := base) T
  obtain ⟨fd, FD⟩ := T.c.def_ 22 (d := d__law_misfits) rfl
  have sc := sc__law_misfits
  refine ⟨fd, fnR FD sc (fun ds r h => by cases h <;> rfl) fun cdv A outer s H E hr ds r hR => ⟨_, (pss_cons (ps_set (i := 6) sc.nd rfl (by first | exact Or.inl rfl | exact Or.inr rfl) (pe_callB (call_len_seqK (K := K) rfl) rfl (f_len T) PySem.boot_len (pa_cons (pv 4) pa_nil))) (pss_cons (ps_set (i := 7) sc.nd rfl (by first | exact Or.inl rfl | exact Or.inr rfl) (pe_op op_mod (pe_callTy call_int1 rfl (f_int T) (by decide +kernel) (pa_cons (pe_callSD F__law_cell (hr.mono (by decide)) rfl (g__law_cell T) k__law_cell b__law_cell .nil (fun σ => passAt (takes_of rfl rfl rfl rfl) σ) (pa_cons (pv 0) (pa_cons pe_int pa_nil))) pa_nil)) (pv 6))) (pss_cons (ps_set (i := 8) sc.nd rfl (by first | exact Or.inl rfl | exact Or.inr rfl) (pe_op op_rep (pe_lst (pa_cons pe_int pa_nil)) (pv 6))) (pss_cons (ps_asg pe_int (pg_sub (pv 8) (pv 7) set_list)) (pss_cons (ps_set (i := 9) sc.nd rfl (by first | exact Or.inl rfl | exact Or.inr rfl) (pe_tup (pa_cons pe_str (pa_cons pe_int pa_nil)))) (pss_cons (ps_if (pt_cmpR op_gt (pe_callB (cr_sumK (K := K) rfl rfl) rfl (f_sum T) (by decide +kernel) (pa_cons (pe_lc (own := [("row", 11)]) (g := gName 11) (tt := tYes) rfl sc.nd (pi_listK (K := K) rfl (pv 2)) (blkOk_by (N := ["script", "orders", "rows", "whole", "stock", "prices", "things", "tight", "other", "due", "longer", "row"]) (sc := defScope s__law_misfits) (by decide +kernel)) (fun _ _ _ _ _ => (pg_name (i := 11) sc.nd rfl (by first | exact Or.inl rfl | exact Or.inr rfl))) (fun _ _ _ _ _ => pts_nil) (fun _ _ _ _ _ => (pe_ix (ix_listK (K := K) rfl) (pv 11) (pv 7) (fun _ _ => rfl)))) pa_nil)) (pv 3) (nomark _)) (pss_one (ps_set (i := 9) sc.nd rfl (by first | exact Or.inl rfl | exact Or.inr rfl) (pe_tup (pa_cons pe_str (pa_cons (pv 7) pa_nil))))) pss_nil) (pss_cons (ps_if (pt_cmpR (op_neDK (K := K) rfl hr.units) (pe_callSD F__law_refused (hr.mono (by decide)) rfl (g__law_refused T) k__law_refused b__law_refused .nil (fun σ => passAt (takes_of rfl rfl rfl rfl) σ) (pa_cons (pe_makeKX (n := 1) (ks := ["copies"]) (mk_Wishes T) I_Wishes (hr.mono (by decide)) rfl (g_Wishes T) bI_Wishes (fun σ => passAt (takes_of rfl rfl rfl rfl) σ) (pa_cons (pv 1) pa_nil) (pk_cons (pv 8) pk_nil)) (pa_cons (pe_makeX (mk_Table T) I_Table (hr.mono (by decide)) rfl (g_Table T) bI_Table .nil (fun σ => passAt (takes_of rfl rfl rfl rfl) σ) (pa_cons (pv 2) (pa_cons (pv 3) pa_nil))) (pa_cons (pv 5) pa_nil)))) (pv 9) (nomark _)) (pss_one (ps_ret pe_bl)) pss_nil) (pss_cons (ps_if (pt_cmpR op_eq (pe_callB (call_len_seqK (K := K) rfl) rfl (f_len T) PySem.boot_len (pa_cons (pv 2) pa_nil)) pe_int (nomark _)) (pss_one (ps_ret pe_bl)) pss_nil) (pss_cons (ps_set (i := 10) sc.nd rfl (by first | exact Or.inl rfl | exact Or.inr rfl) (pe_op op_cat (pe_lc (own := [("row", 11)]) (g := gName 11) (tt := tYes) rfl sc.nd (pi_listK (K := K) rfl (pv 2)) (blkOk_by (N := ["script", "orders", "rows", "whole", "stock", "prices", "things", "tight", "other", "due", "longer", "row"]) (sc := defScope s__law_misfits) (by decide +kernel)) (fun _ _ _ _ _ => (pg_name (i := 11) sc.nd rfl (by first | exact Or.inl rfl | exact Or.inr rfl))) (fun _ _ _ _ _ => pts_nil) (fun _ _ _ _ _ => (pe_callTy (call_list_ofK (K := K) rfl) rfl (f_list T) (by decide +kernel) (pa_cons (pv 11) pa_nil)))) (pe_lst (pa_cons (pe_callTy (call_list_ofK (K := K) rfl) rfl (f_list T) (by decide +kernel) (pa_cons (pe_ix (ix_listK (K := K) rfl) (pv 2) pe_int (fun _ _ => rfl)) pa_nil)) pa_nil)))) (pss_one (ps_ret (pe_cmpR (op_eqDK (K := K) rfl hr.units) (pe_callSD F__law_refused (hr.mono (by decide)) rfl (g__law_refused T) k__law_refused b__law_refused .nil (fun σ => passAt (takes_of rfl rfl rfl rfl) σ) (pa_cons (pe_makeKX (n := 1) (ks := ["copies"]) (mk_Wishes T) I_Wishes (hr.mono (by decide)) rfl (g_Wishes T) bI_Wishes (fun σ => passAt (takes_of rfl rfl rfl rfl) σ) (pa_cons (pv 1) pa_nil) (pk_cons (pv 4) pk_nil)) (pa_cons (pe_makeX (mk_Table T) I_Table (hr.mono (by decide)) rfl (g_Table T) bI_Table .nil (fun σ => passAt (takes_of rfl rfl rfl rfl) σ) (pa_cons (pv 10) (pa_cons (pv 3) pa_nil))) (pa_cons (pv 5) pa_nil)))) (pe_tup (pa_cons pe_str (pa_cons pe_non pa_nil))) (nomark _))))))))))))), ?_⟩, FD.bindsN fun _ _ _ _ _ _ us hl => match us, hl with | [_, _, _, _, _, _], _ => rfl, FD.kp⟩
  intro F xw
  cases hR with
  | mk ns p n W os rows st lv L n2 hs ho hl =>
    have p1 := L.p1
    have n1 := L.n1
    have hst := hs.cop.len
    have rl := L.L.len

    refine q_seq (s_set (ev_lenM (f := D.int) (ev_var rfl)) ?_)
    rw [hst]
    refine q_seq (s_set (ev_ci (ev_int1 (ev_callX (eva_cons (ev_var rfl) (eva_cons ev_int eva_nil)) (R_cell.mk ns 10 (by decide)))) (ev_var rfl) (by omega)) ?_)
    have m1 := Int.emod_nonneg (cell ns 10) (show (n : Int) ≠ 0 by omega)
    have m2 := Int.emod_lt_of_pos (cell ns 10) (show (0 : Int) < n by omega)
    obtain ⟨tg, htg⟩ := Int.eq_ofNat_of_zero_le m1
    rw [htg]
    have tl : tg < n := by omega

    refine q_seq (s_setl (evl_repM ev_int (ev_var rfl) (by omega)) ?_)
    refine q_seq (s_seto rfl ev_int (ev_var rfl) (ixN_ok (by omega) (by simp; omega)) ?_)
    rw [map_setI]
    simp only [Int.toNat_natCast]
    refine s_fz 8 rfl rfl ?_
    have ocl : ((List.replicate n (12 : Int)).set tg 1).length = n := by simp
    have oca : ∀ k, k < n → ((List.replicate n (12 : Int)).set tg 1).getD k 0 = if k = tg then 1 else 12 := fun k hk => by
      by_cases z : k = tg
      · subst z
        rw [getD_set_self (by simpa using hk), if_pos rfl]
      · rw [getD_set_ne (fun y => z y.symm), if_neg z, List.getD_eq_getElem?_getD, List.getElem?_replicate, if_pos hk]
        rfl
    have oce : ∀ e ∈ (List.replicate n (12 : Int)).set tg 1, e = 1 ∨ e = 12 := fun e he => by
      rcases List.mem_or_eq_of_mem_set he with he | rfl
      · exact .inr (List.mem_replicate.mp he).2
      · exact .inl rfl
    have ocs : (12 : Int) ≤ ((List.replicate n (12 : Int)).set tg 1).sum := by
      have := sum_set (l := List.replicate n (12 : Int)) (i := tg) (v := 1) (by simpa using tl)
      rw [this, sum_replicate' n 12, List.getD_eq_getElem?_getD, List.getElem?_replicate, if_pos tl]
      simp
      omega
    generalize (List.replicate n (12 : Int)).set tg 1 = oc at ocl oca oce ocs
    have hO : WOk n os oc := ⟨hs.p1, hs.n1, hs.ord, ⟨ocl, fun e he => by rcases oce e he with rfl | rfl <;> decide, by omega, by omega⟩⟩
    have hwO := R_wish.ok (eL (eL (eL D.int)) os) n os oc (okF_L (by omega) fun l hl2 => okF_L (by have := (hs.ord l hl2).cnt; omega) fun g hg => okF_L (by have := (hs.ord l hl2).gl hg; omega) fun t _ => okF_int _ t) (frz_L fun l _ => frz_L fun g _ => frz_L fun t _ => rfl) hO
    have hwS := R_wish.ok (eL (eL (eL D.int)) os) n os st (okF_L (by omega) fun l hl2 => okF_L (by have := (hs.ord l hl2).cnt; omega) fun g hg => okF_L (by have := (hs.ord l hl2).gl hg; omega) fun t _ => okF_int _ t) (frz_L fun l _ => frz_L fun g _ => frz_L fun t _ => rfl) hs
    rw [ho] at hwO hwS
    have hot : (os.map fun l => l.map sortI).length = p := by rw [List.length_map]; exact ho
    generalize os.map (fun l => l.map sortI) = oo at hwO hwS hot
    have hT := L.tab (BW := He.ga K "BadWhole") (BR := He.ga K "BadRow")
    obtain ⟨q1, q2, q3, q4⟩ := red_row L
    have FI : FitIn n oc (redRows rows W) (W / com W rows) := ⟨ocl, fun r hr => (q2 r hr).1, by omega, by omega, fun e he => by rcases oce e he with rfl | rfl <;> decide, Nat.lt_trans q4 (by decide)⟩
    have hcol : ∀ k, k ≠ tg → k < n → ¬ oc.getD k 0 * (W / com W rows) < col (redRows rows W) k := fun k hk hkn => by
      rw [col_tight L, oca k hkn, if_neg hk]
      have := col_le (R := rows) (W := W) (fun r hr e he => ((L.L.row r hr).2.1 e he).2) (by have := L.w1; omega) k
      have h2 : (rows.length : Int) * W ≤ 12 * W := Int.mul_le_mul_of_nonneg_right (by omega) (by have := L.w1; omega)
      omega
    have hct : oc.getD tg 0 = 1 := by rw [oca tg tl, if_pos rfl]
    have hcolw := fun k hk => (L.L.row k hk).1
    refine q_seq (s_set (ev_tup (eva_cons ev_str (eva_cons ev_int eva_nil))) ?_)
    refine q_midE (fun d : D => [.d (.scr ns), .d (eL (eL (eL D.int)) os), .d (eL (eL D.int) rows), .d (.int W), .d (eL D.int st), .d (.obj (He.ga K "Prices") (prFs lv)), .d (.int n), .d (.int tg), .d (eL D.int oc), .d (d), .un, .un]) (fun d => okP 8 d = true ∧ ∃ y, eqP y d = true ∧ okP 8 y = true ∧ R_lr (He.ga K "Misfit") (He.ga K "Wishes") (He.ga K "Table") (He.ga K "Prices") [.obj (He.ga K "Wishes") (wishFs p n oo oc), .obj (He.ga K "Table") (tbFs p n (redRows rows W) (W / com W rows)), .obj (He.ga K "Prices") (prFs lv)] (.d y)) ?_ ?_
    · refine s_if (evt_test (ev_ob (ev_sumM (ev_l (evl_mapA (eL D.int) (fun r => .int (r.getD tg 0)) (src_listM (enc := (eL D.int)) (ev_var rfl)) (by omega) (fun _ h => h) (fun x hx => gd_name ⟨evt_yes, (Ev.to (ev_ixLM (f := D.int) (z := 0) (ev_var rfl) (ev_var rfl) (by omega) (by rw [hcolw x hx]; omega)) (by first | rfl | simp))⟩)))) (ev_var rfl))) (fun hb => ?_) (fun hb => ?_)
      · have z : W < col rows tg := of_decide_eq_true hb
        refine s_set (ev_tup (eva_cons ev_str (eva_cons (ev_var rfl) eva_nil))) ?_
        have hR := R_fit.bad (MF := He.ga K "Misfit") (W := He.ga K "Wishes") (TB := He.ga K "Table") p n oo oc (redRows rows W) (W / com W rows) tg tl ((col_tight L _ _).mpr (by rw [hct]; omega)) (fun j hj => hcol j (by omega) (by omega)) FI
        exact at_mk (pair "misfit" (.int tg)) ⟨okP_pr (by decide +kernel) (okP_int _ _), pair "misfit" (.int tg), by rw [eqP_pr _ _ _ _ _ (eqP_int _ _)]; simp, okP_pr (by decide +kernel) (okP_int _ _), R_lr.mis _ _ _ _ (R_show.exc _ _ _ _ hR)⟩
      · have z : ¬ W < col rows tg := of_decide_eq_false hb
        refine s_next ?_
        have hg : ∀ j, j < n → ¬ oc.getD j 0 * (W / com W rows) < col (redRows rows W) j := fun j hj => by
          by_cases e : j = tg
          · subst e
            rw [col_tight L, hct]
            omega
          · exact hcol j e hj
        exact at_mk (pair "none" (.int 0)) ⟨okP_pr (by decide +kernel) (okP_int _ _), pair "none" (.int 0), by rw [eqP_pr _ _ _ _ _ (eqP_int _ _)]; simp, okP_pr (by decide +kernel) (okP_int _ _), R_lr.none _ _ _ _ (R_show.ok p n oo oc _ _ lv hg FI q1 hot hl)⟩
    rintro dd ⟨hd1, y, hd2, hd3, hd4⟩

    refine q_seq (s_if (evt_test (ev_neP 8 (ev_callX (eva_cons (ev_makeK (eva_cons (ev_var rfl) eva_nil) (eva_cons (ev_var rfl) eva_nil) hwO) (eva_cons (ev_make (eva_cons (ev_var rfl) (eva_cons (ev_var rfl) eva_nil)) hT) (eva_cons (ev_var rfl) eva_nil))) hd4) (ev_var rfl) hd3 hd1 hd2)) (fun hb => ?_) (fun hb => ?_))
    · simp at hb
    refine s_next ?_
    refine q_seq (s_if (evt_test (ev_eqi (ev_lenM (f := (eL D.int)) (ev_var rfl)) ev_int)) (fun hb => ?_) (fun hb => ?_))
    · refine s_ret ev_bl ?_
      rfl
    refine s_next ?_
    have hp12 : p ≠ 12 := fun z => by
      have hb : decide ((rows.length : Int) = 12) = false := hb
      simp at hb
      omega
    have L2 : LowT (p + 1) n W (rows ++ [rows.getD 0 []]) := ⟨L.L.more (getD_mem (z := []) (by omega)), ⟨by omega, by omega⟩, L.n1, L.w1, L.wa⟩
    have hT2 := L2.tab (BW := He.ga K "BadWhole") (BR := He.ga K "BadRow")
    have hR := R_fit.mis (MF := He.ga K "Misfit") (W := He.ga K "Wishes") (TB := He.ga K "Table") p n (p + 1) n oo st (redRows (rows ++ [rows.getD 0 []]) W) (W / com W (rows ++ [rows.getD 0 []])) (.inl (by omega))

    refine q_seq (s_set (ev_l (evl_catM (ev_l (evl_mapA (eL D.int) (fun r => eL D.int r) (src_listM (enc := (eL D.int)) (ev_var rfl)) (by omega) (fun _ h => h) (fun x hx => gd_name ⟨evt_yes, (Ev.to (ev_l (evl_ofL (ev_var rfl))) (by first | rfl | simp))⟩))) (ev_l (evl_oneM (f := (eL D.int)) (ev_l (evl_ofL (ev_ixLM (f := (eL D.int)) (z := []) (ev_var rfl) ev_int (by omega) (by omega)))))) (by simp; omega))) ?_)
    refine s_ret (ev_eqP 8 (ev_callX (eva_cons (ev_makeK (eva_cons (ev_var rfl) eva_nil) (eva_cons (ev_var rfl) eva_nil) hwS) (eva_cons (ev_make (eva_cons (ev_var rfl) (eva_cons (ev_var rfl) eva_nil)) hT2) (eva_cons (ev_var rfl) eva_nil))) (R_lr.mis _ _ _ _ (R_show.exc _ _ _ _ hR))) (ev_tup (eva_cons ev_str (eva_cons ev_non eva_nil))) (okP_pr (by decide +kernel) (okP_non _)) (okP_pr (by decide +kernel) (okP_non _)) ((eqP_pr _ _ _ _ _ eqP_non).trans (show _ = true by decide +kernel))) ?_
    rfl
end
end G17
set_option Elab.async false
set_option linter.all false
set_option maxRecDepth 100000
set_option maxHeartbeats 4000000
set_option exponentiation.threshold 2000
namespace G17
open PySem PySem.Spec PyProof.Rows L2 L3
section
variable {w : World} {K : PySem.W.Frag} {mg : Str → Option Value} {base : Heap}
/-! ### the papers' lengths -/
theorem pap_len {c : Int} {lv : List Int} : ∀ l ∈ papersL c lv, l.length ≤ lv.length + 1 := by
  have key : ∀ (as : List Int) (Q : List (List Int)), (∀ l ∈ Q, l.length ≤ lv.length + 1) → ∀ l ∈ as.foldl (addP c lv) Q, l.length ≤ lv.length + 1 := by
    intro as
    induction as with
    | nil => exact fun Q h => h
    | cons a as ih =>
      intro Q h
      refine ih _ fun l hl => ?_
      unfold addP prs at hl
      simp only [List.foldl_cons, List.foldl_nil, List.mem_append, List.mem_singleton] at hl
      rcases hl with (((hl | rfl) | rfl) | rfl) | rfl
      · exact h l hl
      all_goals (rw [List.length_set]; omega)
  refine key _ _ fun l hl => ?_
  unfold p0 swp at hl
  simp only [List.mem_append, List.mem_cons, List.not_mem_nil, or_false] at hl
  rcases hl with (((rfl | rfl | rfl) | rfl | rfl | rfl) | rfl | rfl | rfl) | rfl <;> simp <;> omega
/-! ### law -/
inductive R_law : List D → Rs → Prop
  | mk (ns : List Int) : R_law [.scr ns] (.d (.bl true))
theorem ok_law (T : Tx K mg) : ∃ fd, (∀ (s : Shared) (v : Value), BindsTo s fd ⟨[v], []⟩ [("script", v)]) ∧ ∀ base : Heap, FnOk pw w K mg base (L2.CX pw w) 9 (He.ga K "law") fd ["script"] (spR K R_law) := by
  obtain ⟨fd, FD⟩ := T.c.def_ 23 (d := d_law) rfl
  refine ⟨fd, fun s v => FD.bindsA (ps := ["script"]) (fun _ _ _ _ _ _ us hl => match us, hl with | [_], _ => rfl) s [v] rfl, fun base => ?_⟩
  obtain ⟨fd__law_cell, F__law_cell, b__law_cell, k__law_cell⟩ := ok__law_cell (w := w) (base := base) T
  obtain ⟨fd__law_drawn, F__law_drawn, b__law_drawn, k__law_drawn⟩ := ok__law_drawn (w := w) (base := base) T
  obtain ⟨fd__law_rows, F__law_rows, b__law_rows, k__law_rows⟩ := ok__law_rows (w := w) (base := base) T
  obtain ⟨fd__law_levels, F__law_levels, b__law_levels, k__law_levels⟩ := ok__law_levels (w := w) (base := base) T
  obtain ⟨fd__law_moved, F__law_moved, b__law_moved, k__law_moved⟩ := ok__law_moved (w := w) (base := base) T
  obtain ⟨fd__law_stock, F__law_stock, b__law_stock, k__law_stock⟩ := ok__law_stock (w := w) (base := base) T
  obtain ⟨fd__law_ranks, F__law_ranks, b__law_ranks, k__law_ranks⟩ := ok__law_ranks (w := w) (base := base) T
  obtain ⟨fd__law_order, F__law_order, b__law_order, k__law_order⟩ := ok__law_order (w := w) (base := base) T
  obtain ⟨fdI_Wishes, I_Wishes, bI_Wishes⟩ := mkI_Wishes (w := w) (base := base) T
  obtain ⟨fdI_Table, I_Table, bI_Table⟩ := mkI_Table (w := w) (base := base) T
  obtain ⟨fd__law_papers, F__law_papers, b__law_papers, k__law_papers⟩ := ok__law_papers (w := w) (base := base) T
  obtain ⟨fdI_Prices, I_Prices, bI_Prices⟩ := mkI_Prices (w := w) (base := base) T
  obtain ⟨fd_shows_prices, F_shows_prices, b_shows_prices, k_shows_prices⟩ := ok_shows_prices (w := w) (base := base) T
  obtain ⟨fd__law_due, F__law_due, b__law_due, k__law_due⟩ := ok__law_due (w := w) (base := base) T
  obtain ⟨fd__law_misfits, F__law_misfits, b__law_misfits, k__law_misfits⟩ := ok__law_misfits (w := w) (base := base) T
  have sc := sc_law
  refine fnR FD sc (fun ds r h => by cases h <;> rfl) fun cdv A outer s H E hr ds r hR => ⟨_, (pss_cons (ps_set (i := 1) sc.nd rfl (by first | exact Or.inl rfl | exact Or.inr rfl) (pe_callSD F__law_cell (hr.mono (by decide)) rfl (g__law_cell T) k__law_cell b__law_cell .nil (fun σ => passAt (takes_of rfl rfl rfl rfl) σ) (pa_cons (pv 0) (pa_cons pe_int pa_nil)))) (pss_cons (ps_set (i := 2) sc.nd rfl (by first | exact Or.inl rfl | exact Or.inr rfl) (pe_op op_add pe_int (pe_op op_mod (pe_callTy call_int1 rfl (f_int T) (by decide +kernel) (pa_cons (pv 1) pa_nil)) pe_int))) (pss_cons (ps_set (i := 3) sc.nd rfl (by first | exact Or.inl rfl | exact Or.inr rfl) (pe_op op_add pe_int (pe_op op_mod (pe_callTy call_int1 rfl (f_int T) (by decide +kernel) (pa_cons (pe_op op_fdivW (pv 1) pe_int) pa_nil)) pe_int))) (pss_cons (ps_if (pt_cmpR op_eq (pe_op op_mod (pe_callTy call_int1 rfl (f_int T) (by decide +kernel) (pa_cons (pe_op op_fdivW (pv 1) pe_int) pa_nil)) pe_int) pe_int (nomark _)) (pss_cons (ps_set (i := 2) sc.nd rfl (by first | exact Or.inl rfl | exact Or.inr rfl) (pe_op op_add pe_int (pe_op op_mod (pe_callTy call_int1 rfl (f_int T) (by decide +kernel) (pa_cons (pe_op op_fdivW (pv 1) pe_int) pa_nil)) pe_int))) (pss_one (ps_set (i := 3) sc.nd rfl (by first | exact Or.inl rfl | exact Or.inr rfl) (pe_op op_add pe_int (pe_op op_mod (pe_callTy call_int1 rfl (f_int T) (by decide +kernel) (pa_cons (pe_op op_fdivW (pv 1) pe_int) pa_nil)) pe_int))))) pss_nil) (pss_cons (ps_set (i := 4) sc.nd rfl (by first | exact Or.inl rfl | exact Or.inr rfl) (pe_callSD F__law_drawn (hr.mono (by decide)) rfl (g__law_drawn T) k__law_drawn b__law_drawn .nil (fun σ => passAt (takes_of rfl rfl rfl rfl) σ) (pa_cons (pe_callSD F__law_cell (hr.mono (by decide)) rfl (g__law_cell T) k__law_cell b__law_cell .nil (fun σ => passAt (takes_of rfl rfl rfl rfl) σ) (pa_cons (pv 0) (pa_cons pe_int pa_nil))) (pa_cons (pv 2) (pa_cons (pv 3) pa_nil))))) (pss_cons (ps_set (i := 5) sc.nd rfl (by first | exact Or.inl rfl | exact Or.inr rfl) (pe_callSD F__law_rows (hr.mono (by decide)) rfl (g__law_rows T) k__law_rows b__law_rows .nil (fun σ => passAt (takes_of rfl rfl rfl rfl) σ) (pa_cons (pv 0) (pa_cons (pv 4) (pa_cons (pv 3) pa_nil))))) (pss_cons (ps_set (i := 6) sc.nd rfl (by first | exact Or.inl rfl | exact Or.inr rfl) (pe_callB (cr_sumK (K := K) rfl rfl) rfl (f_sum T) (by decide +kernel) (pa_cons (pe_ix (ix_listK (K := K) rfl) (pv 5) pe_int (fun _ _ => rfl)) pa_nil))) (pss_cons (ps_set (i := 7) sc.nd rfl (by first | exact Or.inl rfl | exact Or.inr rfl) (pe_callSD F__law_levels (hr.mono (by decide)) rfl (g__law_levels T) k__law_levels b__law_levels .nil (fun σ => passAt (takes_of rfl rfl rfl rfl) σ) (pa_cons (pv 0) (pa_cons (pv 4) (pa_cons (pv 3) pa_nil))))) (pss_cons (ps_set (i := 5) sc.nd rfl (by first | exact Or.inl rfl | exact Or.inr rfl) (pe_callSD F__law_moved (hr.mono (by decide)) rfl (g__law_moved T) k__law_moved b__law_moved .nil (fun σ => passAt (takes_of rfl rfl rfl rfl) σ) (pa_cons (pv 0) (pa_cons (pv 5) (pa_cons (pv 7) pa_nil))))) (pss_cons (ps_set (i := 8) sc.nd rfl (by first | exact Or.inl rfl | exact Or.inr rfl) (pe_callSD F__law_stock (hr.mono (by decide)) rfl (g__law_stock T) k__law_stock b__law_stock .nil (fun σ => passAt (takes_of rfl rfl rfl rfl) σ) (pa_cons (pv 0) (pa_cons (pv 5) (pa_cons (pv 7) (pa_cons (pv 6) pa_nil)))))) (pss_cons (ps_setLc (i := 9) (own := [("thing", 19)]) (g := gName 19) (tt := tYes) rfl sc.nd rfl rfl (sw_true rfl rfl rfl rfl) (pi_range1 rfl (f_range T) (pa_cons (pv 3) pa_nil)) (blkOk_by (N := ["script", "sizes", "people", "things", "deal", "rows", "whole", "levels", "stock", "free", "ranks", "orders", "world", "wishes", "table", "paper", "handed", "prices", "told", "thing", "person", "row"]) (sc := defScope s_law) (by decide +kernel)) (fun _ _ _ _ _ => (pg_name (i := 19) sc.nd rfl (by first | exact Or.inl rfl | exact Or.inr rfl))) (fun _ _ _ _ _ => pts_nil) (fun _ _ _ _ _ => (pe_op op_sub (pe_op op_mulW (pe_ix (ix_listK (K := K) rfl) (pv 8) (pv 19) (fun _ _ => rfl)) (pv 6)) (pe_callB (cr_sumK (K := K) rfl rfl) rfl (f_sum T) (by decide +kernel) (pa_cons (pe_lc (own := [("row", 21)]) (g := gName 21) (tt := tYes) rfl sc.nd (pi_listK (K := K) rfl (pv 5)) (blkOk_by (N := ["script", "sizes", "people", "things", "deal", "rows", "whole", "levels", "stock", "free", "ranks", "orders", "world", "wishes", "table", "paper", "handed", "prices", "told", "thing", "person", "row"]) (by kernel_rfl)) (fun _ _ _ _ _ => (pg_name (i := 21) sc.nd rfl (by first | exact Or.inl rfl | exact Or.inr rfl))) (fun _ _ _ _ _ => pts_nil) (fun _ _ _ _ _ => (pe_ix (ix_listK (K := K) rfl) (pv 21) (pv 19) (fun _ _ => rfl)))) pa_nil))))) (pss_cons (ps_setLc (i := 10) (own := [("person", 20)]) (g := gName 20) (tt := tYes) rfl sc.nd rfl rfl (sw_true rfl rfl rfl rfl) (pi_range1 rfl (f_range T) (pa_cons (pv 2) pa_nil)) (blkOk_by (N := ["script", "sizes", "people", "things", "deal", "rows", "whole", "levels", "stock", "free", "ranks", "orders", "world", "wishes", "table", "paper", "handed", "prices", "told", "thing", "person", "row"]) (sc := defScope s_law) (by decide +kernel)) (fun _ _ _ _ _ => (pg_name (i := 20) sc.nd rfl (by first | exact Or.inl rfl | exact Or.inr rfl))) (fun _ _ _ _ _ => pts_nil) (fun _ _ _ _ _ => (pe_callSD F__law_ranks (hr.mono (by decide)) rfl (g__law_ranks T) k__law_ranks b__law_ranks .nil (fun σ => passZ σ) (pa_cons (pv 0) (pa_cons (pv 20) (pa_cons (pe_ix (ix_listK (K := K) rfl) (pv 5) (pv 20) (fun _ _ => rfl)) (pa_cons (pv 7) pa_nil))))))) (pss_cons (ps_setLc (i := 11) (own := [("row", 21)]) (g := gName 21) (tt := tYes) rfl sc.nd rfl rfl (sw_true rfl rfl rfl rfl) (pi_listK (K := K) rfl (pv 10)) (blkOk_by (N := ["script", "sizes", "people", "things", "deal", "rows", "whole", "levels", "stock", "free", "ranks", "orders", "world", "wishes", "table", "paper", "handed", "prices", "told", "thing", "person", "row"]) (sc := defScope s_law) (by decide +kernel)) (fun _ _ _ _ _ => (pg_name (i := 21) sc.nd rfl (by first | exact Or.inl rfl | exact Or.inr rfl))) (fun _ _ _ _ _ => pts_nil) (fun _ _ _ _ _ => (pe_callSD F__law_order (hr.mono (by decide)) rfl (g__law_order T) k__law_order b__law_order .nil (fun σ => passZ σ) (pa_cons (pv 21) pa_nil)))) (pss_cons (ps_set (i := 12) sc.nd rfl (by first | exact Or.inl rfl | exact Or.inr rfl) (pe_tup (pa_cons (pv 10) (pa_cons (pv 5) (pa_cons (pv 9) pa_nil))))) (pss_cons (ps_set (i := 13) sc.nd rfl (by first | exact Or.inl rfl | exact Or.inr rfl) (pe_makeKX (n := 1) (ks := ["copies"]) (mk_Wishes T) I_Wishes (hr.mono (by decide)) rfl (g_Wishes T) bI_Wishes (fun σ => passAt (takes_of rfl rfl rfl rfl) σ) (pa_cons (pv 11) pa_nil) (pk_cons (pv 8) pk_nil))) (pss_cons (ps_set (i := 14) sc.nd rfl (by first | exact Or.inl rfl | exact Or.inr rfl) (pe_makeX (mk_Table T) I_Table (hr.mono (by decide)) rfl (g_Table T) bI_Table .nil (fun σ => passAt (takes_of rfl rfl rfl rfl) σ) (pa_cons (pe_lc (own := [("row", 21)]) (g := gName 21) (tt := tYes) rfl sc.nd (pi_listK (K := K) rfl (pv 5)) (blkOk_by (N := ["script", "sizes", "people", "things", "deal", "rows", "whole", "levels", "stock", "free", "ranks", "orders", "world", "wishes", "table", "paper", "handed", "prices", "told", "thing", "person", "row"]) (sc := defScope s_law) (by decide +kernel)) (fun _ _ _ _ _ => (pg_name (i := 21) sc.nd rfl (by first | exact Or.inl rfl | exact Or.inr rfl))) (fun _ _ _ _ _ => pts_nil) (fun _ _ _ _ _ => (pe_callTy (call_list_ofK (K := K) rfl) rfl (f_list T) (by decide +kernel) (pa_cons (pv 21) pa_nil)))) (pa_cons (pv 6) pa_nil)))) (pss_cons (ps_for (passes_of rfl) rfl (pi_listK (K := K) rfl (pe_callSD F__law_papers (hr.mono (by decide)) rfl (g__law_papers T) k__law_papers b__law_papers .nil (fun σ => passAt (takes_of rfl rfl rfl rfl) σ) (pa_cons (pv 0) (pa_cons (pv 7) pa_nil)))) (pg_name (i := 15) sc.nd rfl (by first | exact Or.inl rfl | exact Or.inr rfl)) (pss_cons (ps_set (i := 18) sc.nd rfl (by first | exact Or.inl rfl | exact Or.inr rfl) (pe_callSD F_shows_prices (hr.mono (by decide)) rfl (g_shows_prices T) k_shows_prices b_shows_prices .nil (fun σ => passAt (takes_of rfl rfl rfl rfl) σ) (pa_cons (pv 13) (pa_cons (pv 14) (pa_cons (pe_makeX (mk_Prices T) I_Prices (hr.mono (by decide)) rfl (g_Prices T) bI_Prices .nil (fun σ => passAt (takes_of rfl rfl rfl rfl) σ) (pa_cons (pe_callTy (call_list_ofK (K := K) rfl) rfl (f_list T) (by decide +kernel) (pa_cons (pv 15) pa_nil)) pa_nil)) pa_nil))))) (pss_one (ps_if (PW.pt (pw_or (pt_not (pt_val (pe_callB (call_isiKK (K := K) rfl) rfl (f_isinstance T) (by decide +kernel) (pa_cons (pv 18) (pa_cons (pe_bltn (v := .ty "bool") (u := .type "bool") rfl (f_bool T) (by decide +kernel) rfl) pa_nil))))) (pw_or1 (pt_cmpR op_ne (pv 18) (pe_callSD F__law_due (hr.mono (by decide)) rfl (g__law_due T) k__law_due b__law_due .nil (fun σ => passAt (takes_of rfl rfl rfl rfl) σ) (pa_cons (pv 12) (pa_cons (pv 15) pa_nil))) (nomark _))))) (pss_one (ps_ret pe_bl)) pss_nil)))) (pss_cons (ps_set (i := 16) sc.nd rfl (by first | exact Or.inl rfl | exact Or.inr rfl) (pe_callTy (call_list_ofK (K := K) rfl) rfl (f_list T) (by decide +kernel) (pa_cons (pv 7) pa_nil))) (pss_cons (ps_set (i := 17) sc.nd rfl (by first | exact Or.inl rfl | exact Or.inr rfl) (pe_makeX (mk_Prices T) I_Prices (hr.mono (by decide)) rfl (g_Prices T) bI_Prices .nil (fun σ => passAt (takes_of rfl rfl rfl rfl) σ) (pa_cons (pv 16) pa_nil))) (pss_cons (ps_asg (pe_op op_sub pe_int pe_int) (pg_sub (pv 16) pe_int set_list)) (pss_cons (ps_if (PW.pt (pw_or (pt_cmpR (op_neDK (K := K) rfl hr.units) (pe_fldK (K := K) rfl (pv 17) rfl) (pe_callTy (call_tuple_ofK (K := K) rfl) rfl (f_tuple T) (by decide +kernel) (pa_cons (pv 7) pa_nil)) (nomark _)) (pw_or1 (pt_not (pt_val (pe_callSD F_shows_prices (hr.mono (by decide)) rfl (g_shows_prices T) k_shows_prices b_shows_prices .nil (fun σ => passAt (takes_of rfl rfl rfl rfl) σ) (pa_cons (pv 13) (pa_cons (pv 14) (pa_cons (pv 17) pa_nil))))))))) (pss_one (ps_ret pe_bl)) pss_nil) (pss_one (ps_ret (pe_callSD F__law_misfits (hr.mono (by decide)) rfl (g__law_misfits T) k__law_misfits b__law_misfits .nil (fun σ => passAt (takes_of rfl rfl rfl rfl) σ) (pa_cons (pv 0) (pa_cons (pv 11) (pa_cons (pv 5) (pa_cons (pv 6) (pa_cons (pv 8) (pa_cons (pv 17) pa_nil)))))))))))))))))))))))))))))), ?_⟩
  intro F xw
  cases hR with
  | mk ns =>

    refine q_seq (s_set (ev_callX (eva_cons (ev_var rfl) (eva_cons ev_int eva_nil)) (R_cell.mk ns 0 (by decide))) ?_)
    refine q_seq (s_set (ev_oi ev_int (ev_ci (ev_int1 (ev_var rfl)) ev_int (by decide))) ?_)
    refine q_seq (s_set (ev_oi ev_int (ev_ci (ev_int1 (ev_ci (ev_var rfl) ev_int (wdiv (by decide) (by decide) _))) ev_int (by decide))) ?_)
    refine q_midE (fun p : Int × Int => [.d (.scr ns), .d (.int (cell ns 0)), .d (.int p.1), .d (.int p.2), .un, .un, .un, .un, .un, .un, .un, .un, .un, .un, .un, .un, .un, .un, .un, .un, .un, .un]) (fun p => 1 ≤ p.1 ∧ p.1 ≤ 12 ∧ 2 ≤ p.2 ∧ p.2 ≤ 12) ?_ ?_
    · refine s_if (evt_test (ev_eqi (ev_ci (ev_int1 (ev_ci (ev_var rfl) ev_int (wdiv (by decide) (by decide) _))) ev_int (by decide)) ev_int)) (fun hb => ?_) (fun hb => ?_)
      · refine q_seq (s_set (ev_oi ev_int (ev_ci (ev_int1 (ev_ci (ev_var rfl) ev_int (wdiv (by decide) (by decide) _))) ev_int (by decide))) ?_)
        refine s_set (ev_oi ev_int (ev_ci (ev_int1 (ev_ci (ev_var rfl) ev_int (wdiv (by decide) (by decide) _))) ev_int (by decide))) ?_
        exact at_mk (1 + cell ns 0 / 128 % 12, 2 + cell ns 0 / 1536 % 11) ⟨by omega, by omega, by omega, by omega⟩
      · exact s_next (at_mk (1 + cell ns 0 % 4, 2 + cell ns 0 / 4 % 4) ⟨by omega, by omega, by omega, by omega⟩)
    rintro ⟨p', n'⟩ ⟨p1, p2, n1, n2⟩
    obtain ⟨p, rfl⟩ := Int.eq_ofNat_of_zero_le (show 0 ≤ p' by omega)
    obtain ⟨n, rfl⟩ := Int.eq_ofNat_of_zero_le (show 0 ≤ n' by omega)
    have p1 : 1 ≤ p := by have : (1 : Int) ≤ p := p1; omega
    have p2 : p ≤ 12 := by have : (p : Int) ≤ 12 := p2; omega
    have n1 : 2 ≤ n := by have : (2 : Int) ≤ n := n1; omega
    have n2 : n ≤ 12 := by have : (n : Int) ≤ 12 := n2; omega
    have pa : 1 ≤ p := p1
    have pb : p ≤ 12 := p2
    have na : 2 ≤ n := n1
    have nb : n ≤ 12 := n2
    refine q_seq (s_set (ev_l (evl_callX (eva_cons (ev_callX (eva_cons (ev_var rfl) (eva_cons ev_int eva_nil)) (R_cell.mk ns 11 (by decide))) (eva_cons (ev_var rfl) (eva_cons (ev_var rfl) eva_nil))) (R_drawn.mk (cell ns 11) p n (by omega) (by omega) (by omega)))) ?_)
    have dl : (drawn (cell ns 11) p n).length = p := drawn_len _ _ _
    have dd : ∀ e ∈ drawn (cell ns 11) p n, 0 ≤ e ∧ e < n := fun e he => drawn_in _ _ (by omega) _ e he
    generalize drawn (cell ns 11) p n = deal at dl dd
    refine q_seq (s_set (ev_l (evl_callX (eva_cons (ev_var rfl) (eva_cons (ev_var rfl) (eva_cons (ev_var rfl) eva_nil))) (R_rows.mk ns deal n dd (by omega) n2))) ?_)
    have tk0 : ∀ e ∈ drawn (cell ns 3) 3 (topOf (cell ns 1)), 0 ≤ e ∧ e < topOf (cell ns 1) := fun e he => drawn_in _ _ (topOf_in _).1 3 e he
    have S0 : Sq' p n (rowsL ns deal n) := ⟨by simp [rowsL, dl], fun r hr => by
      unfold rowsL at hr
      obtain ⟨i, _, rfl⟩ := List.mem_map.mp hr
      have := row_facts (tn := drawn (cell ns 2) 3 deal.length) (i := i) dd (by omega) fun e he => (tk0 e he).1
      exact ⟨this.1, this.2.1⟩⟩
    have W0 : ∀ r ∈ rowsL ns deal n, r.sum = wof (drawn (cell ns 3) 3 (topOf (cell ns 1))) := fun r hr => by
      unfold rowsL at hr
      obtain ⟨i, _, rfl⟩ := List.mem_map.mp hr
      exact (row_facts (tn := drawn (cell ns 2) 3 deal.length) (i := i) dd (by omega) fun e he => (tk0 e he).1).2.2.1
    have C0 := fun t => col_rows (ns := ns) (deal := deal) (n := n) (t := t) dd (by omega)
    have Wp : 3 ≤ wof (drawn (cell ns 3) 3 (topOf (cell ns 1))) ∧ wof (drawn (cell ns 3) 3 (topOf (cell ns 1))) ≤ 10 ^ 39 := by
      have h1 := getD_nn fun e he => (tk0 e he).1
      have h2 := fun k => getD_le (W := 10 ^ 38) (fun e he => by have := (tk0 e he).2; have := (topOf_in (cell ns 1)).2; omega) (by decide) (r := drawn (cell ns 3) 3 (topOf (cell ns 1))) k
      have a0 := h1 0; have a1 := h1 1; have a2 := h1 2
      have b0 := h2 0; have b1 := h2 1; have b2 := h2 2
      unfold wof
      generalize (drawn (cell ns 3) 3 (topOf (cell ns 1))).getD 0 0 = x at *
      generalize (drawn (cell ns 3) 3 (topOf (cell ns 1))).getD 1 0 = y at *
      generalize (drawn (cell ns 3) 3 (topOf (cell ns 1))).getD 2 0 = z at *
      omega
    generalize wof (drawn (cell ns 3) 3 (topOf (cell ns 1))) = W at W0 C0 Wp
    have Wz : W.natAbs < 2 ^ 140 := Nat.lt_of_le_of_lt (show W.natAbs ≤ 10 ^ 39 by omega) (by decide)
    refine q_seq (s_set (ev_sumL (ev_ixLM (f := (eL D.int)) (z := []) (ev_var rfl) ev_int (by decide) (by have := S0.len; simp; omega))) ?_)
    rw [show ((rowsL ns deal n).getD (0 : Int).toNat []).sum = W from W0 _ (getD_mem (by have := S0.len; simp; omega))]
    refine q_seq (s_set (ev_l (evl_callX (eva_cons (ev_var rfl) (eva_cons (ev_var rfl) (eva_cons (ev_var rfl) eva_nil))) (R_lev.mk ns deal n (by omega) n2))) ?_)
    have ll : (levelsL ns deal n).length = n := by simp [levelsL]
    have lr : ∀ e ∈ levelsL ns deal n, 0 ≤ e ∧ e < 10 ^ 20 := fun e he => by
      unfold levelsL at he
      obtain ⟨k, hk, rfl⟩ := List.mem_map.mp he
      have h0 := topP_in (cell ns 1)
      have h1 := drawn_in (cell ns 5) (topP (cell ns 1)) h0.1 n
      unfold levelAt
      split
      · have h2 := h1 _ (getD_mem (z := 0) (k := k) (by rw [drawn_len]; exact List.mem_range.mp hk))
        omega
      · decide
    have ld : ∀ k, k < n → (levelsL ns deal n).getD k 0 ≠ 0 → (k : Int) ∈ deal := fun k hk h => by
      have e : (levelsL ns deal n).getD k 0 = _ := getD_mapr hk
      rw [e] at h
      unfold levelAt at h
      split at h
      · rename_i z
        exact z.1
      · exact absurd rfl h
    generalize levelsL ns deal n = lv at ll lr ld
    have lz : ∀ e ∈ lv, e.natAbs < 2 ^ 100 := fun e he => Nat.lt_of_lt_of_le (show e.natAbs < 10 ^ 20 by have := lr e he; omega) (by decide)
    subst ll
    refine q_seq (s_set (ev_callX (eva_cons (ev_var rfl) (eva_cons (ev_var rfl) (eva_cons (ev_var rfl) eva_nil))) (R_mv.mk ns lv _ p S0 ⟨pa, pb⟩ nb)) ?_)
    have M := moved_mv (ns := ns) S0 W0 pa
    have hcl := fun {k : Nat} (h : lv.getD k 0 ≠ 0) => M.col S0.len h
    generalize movedL ns lv (rowsL ns deal lv.length) = R at M hcl
    have Lw := M.low
    have rl := Lw.len
    have LT : LowT p lv.length W R := ⟨Lw, ⟨pa, pb⟩, ⟨by omega, nb⟩, by omega, Nat.lt_trans Wz (by decide)⟩
    have cn : ∀ k, 0 ≤ col R k := col_nn fun r hr e he => ((Lw.row r hr).2.1 e he).1
    have cw : ∀ k, col R k ≤ 12 * W := fun k => by
      have := col_le (R := R) (W := W) (fun r hr e he => ((Lw.row r hr).2.1 e he).2) (by omega) k
      have h2 : (R.length : Int) * W ≤ 12 * W := Int.mul_le_mul_of_nonneg_right (by omega) (by omega)
      omega
    have cz : ∀ k, (col R k + W - 1).natAbs < 2 ^ 1000 := fun k => by
      have := cn k
      have := cw k
      exact Nat.lt_of_le_of_lt (show _ ≤ 13 * 10 ^ 39 by omega) (by decide)
    refine q_seq (s_set (ev_l (evl_callX (eva_cons (ev_var rfl) (eva_cons (ev_var rfl) (eva_cons (ev_var rfl) (eva_cons (ev_var rfl) eva_nil)))) (R_stock.mk ns lv R W (by omega) nb (by omega) (fun r hr => (Lw.row r hr).1) cz (Nat.lt_trans Wz (by decide))))) ?_)
    have mn : ∀ e ∈ drawn (cell ns 8) lv.length 2, 0 ≤ e := fun e he => (drawn_in _ _ (by decide) _ e he).1
    have SF := fun k => stock_facts (lv := lv) (k := k) (show 0 < W by omega) (cn k) (cw k) (getD_nn mn k)
    have stl : (stockL ns lv R W).length = lv.length := by simp [stockL]
    have stg : ∀ k, k < lv.length → (stockL ns lv R W).getD k 0 = stockAt lv (drawn (cell ns 8) lv.length 2) R W k := fun k hk => getD_mapr hk
    have str : ∀ e ∈ stockL ns lv R W, 1 ≤ e ∧ e ≤ 12 := fun e he => by
      unfold stockL at he
      obtain ⟨k, hk, rfl⟩ := List.mem_map.mp he
      exact (SF k).1
    have st1 : ∀ k, k < lv.length → col R k ≤ (stockL ns lv R W).getD k 0 * W := fun k hk => by rw [stg k hk]; exact (SF k).2.1
    have st2 : ∀ k, k < lv.length → lv.getD k 0 ≠ 0 → (stockL ns lv R W).getD k 0 * W = col R k := fun k hk h => by
      rw [stg k hk]
      refine (SF k).2.2 (cntT deal k) (cnt_pos (ld k hk h)) h ?_
      rw [hcl h, C0]
    generalize stockL ns lv R W = st at stl str st1 st2
    have sts := stock_sum (by omega) Lw stl st1
    have sz : ∀ e ∈ st, e.natAbs < 2 ^ 10 := fun e he => by have := str e he; omega
    have stw : ∀ k, k < lv.length → (st.getD k 0 * W).natAbs < 2 ^ 1000 := fun k hk => Nat.lt_trans (wide_lt (a := 10) (b := 140) (getD_abs sz) Wz) (by decide)
    refine q_seq (s_set (ev_l (evl_rngM _ (fun k => .int (st.getD k 0 * W - col R k)) (src_rngN (eva_cons (ev_var rfl) eva_nil) (by first | omega | (simp; omega) | (simp at *; omega))) (by omega) (fun _ h => h) (fun i hi => gd_name ⟨evt_yes, (Ev.to (ev_oi (ev_ci (ev_ixLM (f := D.int) (z := 0) (ev_var rfl) (ev_var rfl) (by omega) (by omega)) (ev_var rfl) (wide_mul (a := 10) (b := 140) (getD_abs sz) Wz (by decide) (by decide) (by decide))) (ev_sumM (ev_l (evl_mapA (eL D.int) (fun r => .int (r.getD i 0)) (src_listM (enc := (eL D.int)) (ev_var rfl)) (by omega) (fun _ h => h) (fun x1 hx1 => gd_name ⟨evt_yes, (Ev.to (ev_ixLM (f := D.int) (z := 0) (ev_var rfl) (ev_var rfl) (by omega) (by rw [(Lw.row x1 hx1).1]; omega)) (by first | rfl | simp))⟩))))) (by first | rfl | simp))⟩))) ?_)
    rw [show D.lst ((List.range lv.length).map fun k => D.int (st.getD k 0 * W - col R k)) = eL D.int (freeL lv.length st R W) from congrArg D.lst (by unfold freeL; rw [List.map_map]; rfl)]
    have hrk : ∀ i, i < p → (R.getD i []).length = lv.length := fun i hi => (Lw.row _ (getD_mem (by omega))).1
    refine q_seq (s_set (ev_l (evl_rngM _ (fun i => eL D.int (ranksL ns lv (R.getD i []) i)) (src_rngN (eva_cons (ev_var rfl) eva_nil) (by first | omega | (simp; omega) | (simp at *; omega))) (by omega) (fun _ h => h) (fun i hi => gd_name ⟨evt_yes, (Ev.to (ev_l (evl_callX (eva_cons (ev_var rfl) (eva_cons (ev_var rfl) (eva_cons (ev_ixLM (f := (eL D.int)) (z := []) (ev_var rfl) (ev_var rfl) (by omega) (by omega)) (eva_cons (ev_var rfl) eva_nil)))) (R_rks.mk ns lv _ i (by omega) (by rw [Int.toNat_natCast]; exact hrk i hi) nb))) (by first | rfl | simp))⟩))) ?_)
    rw [show D.lst ((List.range p).map fun i => eL D.int (ranksL ns lv (R.getD i []) i)) = eL (eL D.int) ((List.range p).map fun i => ranksL ns lv (R.getD i []) i) from congrArg D.lst (by rw [List.map_map]; rfl)]
    have kl : ((List.range p).map fun i => ranksL ns lv (R.getD i []) i).length = p := by simp
    have kr : ∀ r ∈ (List.range p).map fun i => ranksL ns lv (R.getD i []) i, r.length = lv.length ∧ ∀ e ∈ r, 0 ≤ e ∧ e ≤ 100 := fun r hr => by
      obtain ⟨i, _, rfl⟩ := List.mem_map.mp hr
      exact ⟨by simp [ranksL], rank_rng nb⟩
    have ka : ∀ i, i < p → Agr lv.length (((List.range p).map fun i => ranksL ns lv (R.getD i []) i).getD i []) (R.getD i []) lv := fun i hi => by
      have e : ((List.range p).map fun i => ranksL ns lv (R.getD i []) i).getD i [] = ranksL ns lv (R.getD i []) i := by
        rw [List.getD_eq_getElem?_getD, List.getElem?_map, List.getElem?_range hi]
        rfl
      rw [e]
      exact agr_made
    generalize ((List.range p).map fun i => ranksL ns lv (R.getD i []) i) = rks at kl kr ka
    have kne : ∀ r ∈ rks, r ≠ [] := fun r hr z => by
      have := (kr r hr).1
      rw [z] at this
      simp at this
      omega
    have km : ∀ r ∈ rks, 0 ≤ maxI 0 r ∧ maxI 0 r ≤ 100 := fun r hr => by
      have h1 := maxI_mem (d := 0) (kne r hr)
      exact (kr r hr).2 _ h1
    refine q_seq (s_set (ev_l (evl_mapA (eL D.int) (fun r => eL (eL D.int) (orderL r)) (src_listM (enc := (eL D.int)) (ev_var rfl)) (by omega) (fun _ h => h) (fun x hx => gd_name ⟨evt_yes, (Ev.to (ev_l (evl_callX (eva_cons (ev_var rfl) eva_nil) (R_ord.mk x (by rw [(kr x hx).1]; omega) (kr x hx).2 (km x hx)))) (by first | rfl | simp))⟩))) ?_)
    rw [show D.lst (rks.map fun r => eL (eL D.int) (orderL r)) = eL (eL (eL D.int)) (ordO rks) from congrArg D.lst (by unfold ordO; rw [List.map_map]; rfl)]
    have ol : (ordO rks).length = p := by simp [ordO, kl]
    have hW : WOk lv.length (ordO rks) st := ⟨by omega, by omega, fun l hl => by
      obtain ⟨r, hr, rfl⟩ := List.mem_map.mp hl
      have h1 := order_ok (rk := r) (M := (maxI 0 r + 1).toNat) (ord_at (kr r hr).2 (by rw [(kr r hr).1]; omega)) (by rw [(kr r hr).1]; omega)
      rw [(kr r hr).1] at h1
      exact h1, by rw [ol]; exact ⟨stl, str, sts, by omega⟩⟩
    have hw := R_wish.ok (eL (eL (eL D.int)) (ordO rks)) lv.length (ordO rks) st (okF_L (by omega) fun l hl2 => okF_L (by have := (hW.ord l hl2).cnt; omega) fun g hg => okF_L (by have := (hW.ord l hl2).gl hg; omega) fun t _ => okF_int _ t) (frz_L fun l _ => frz_L fun g _ => frz_L fun t _ => rfl) hW
    rw [ol] at hw
    refine q_seq (s_set (ev_tup (eva_cons (ev_var rfl) (eva_cons (ev_var rfl) (eva_cons (ev_var rfl) eva_nil)))) ?_)
    refine q_seq (s_set (ev_makeK (eva_cons (ev_var rfl) eva_nil) (eva_cons (ev_var rfl) eva_nil) hw) ?_)
    have hT := LT.tab (BW := He.ga K "BadWhole") (BR := He.ga K "BadRow")
    refine q_seq (s_set (ev_make (eva_cons (ev_l (evl_mapA (eL D.int) (fun r => eL D.int r) (src_listM (enc := (eL D.int)) (ev_var rfl)) (by omega) (fun _ h => h) (fun x hx => gd_name ⟨evt_yes, (Ev.to (ev_l (evl_ofL (ev_var rfl))) (by first | rfl | simp))⟩))) (eva_cons (ev_var rfl) eva_nil)) hT) ?_)
    have DS := fun q : List Int => due_same (st := st) (lv := q) LT kl kr
    have hsl : (srtO rks).length = p := by
      show ((ordO rks).map _).length = p
      rw [List.length_map]
      exact ol
    have hsr : (redRows R W).length = p := by simp [redRows, rl]
    obtain ⟨q1, q2, q3, q4⟩ := red_row LT
    have FI : FitIn lv.length st (redRows R W) (W / com W R) := ⟨stl, fun r hr => (q2 r hr).1, by omega, by omega, sz, Nat.lt_trans q4 (by decide)⟩
    have hgd : ∀ j, j < lv.length → ¬ st.getD j 0 * (W / com W R) < col (redRows R W) j := fun j hj => by
      rw [col_tight LT]
      have := st1 j hj
      omega
    have fl : (freeL lv.length st R W).length = lv.length := by simp [freeL]
    have fg : ∀ k, k < lv.length → (freeL lv.length st R W).getD k 0 = st.getD k 0 * W - col R k := fun k hk => getD_mapr hk
    have SH := fun (q : List Int) (hq : q.length ≤ 1000) => R_show.ok (MF := He.ga K "Misfit") (W := He.ga K "Wishes") (TB := He.ga K "Table") (PR := He.ga K "Prices") p lv.length (srtO rks) st (redRows R W) (W / com W R) q hgd FI hsr hsl hq
    have DU := fun (q : List Int) (hq : q.length ≤ 1000) => R_due.mk rks R (freeL lv.length st R W) q (by omega) (fun r hr => by rw [fl]; exact (kr r hr).1) (fun r hr => by rw [fl]; exact (Lw.row r hr).1) (by omega) (by omega) hq
    have DD := fun q : List Int => show decide (Due lv.length ((srtO rks).map (rankL lv.length)) (redRows R W) (spareL lv.length st (redRows R W) (W / com W R)) q) = decide (Due lv.length rks R (freeL lv.length st R W) q) from decide_eq_decide.mpr (DS q)
    have hF : ∀ k, k < lv.length → FreeOk lv.length (freeL lv.length st R W) lv k := fun k hk => by
      unfold FreeOk
      rw [fg k hk]
      have h1 := (lr _ (getD_mem (z := 0) hk)).1
      refine ⟨h1, fun z => ?_⟩
      have := st2 k hk (by omega)
      omega
    have good : Due lv.length rks R (freeL lv.length st R W) lv := ⟨rfl, hF, fun i hi => ka i (by omega)⟩
    refine q_forAE (eL D.int) (fun _ : Unit => [.d (.scr ns), .un, .un, .un, .un, .d (eL (eL D.int) R), .d (.int W), .d (eL D.int lv), .d (eL D.int st), .un, .un, .d (eL (eL (eL D.int)) (ordO rks)), .d (wrld rks R (freeL lv.length st R W)), .d (.obj (He.ga K "Wishes") (wishFs p lv.length (srtO rks) st)), .d (.obj (He.ga K "Table") (tbFs p lv.length (redRows R W) (W / com W R))), .un, .un, .un, .un, .un, .un, .un]) (fun _ _ => True) (src_listM (ev_l (evl_callX (eva_cons (ev_var rfl) (eva_cons (ev_var rfl) eva_nil)) (R_pap.mk ns lv (by omega) lz)))) () trivial (hb := fun i q _ hq _ => gd_name ?_) (hd := fun _ _ => ?_)
    · have hql : q.length ≤ 1000 := by
        have := pap_len q (List.mem_of_getElem? hq)
        omega
      refine q_seq (s_set (ev_callX (eva_cons (ev_var rfl) (eva_cons (ev_var rfl) (eva_cons (ev_make (eva_cons (ev_l (evl_ofL (ev_var rfl))) eva_nil) (R_prices.mk q hql)) eva_nil))) (SH q hql)) ?_)
      have hdu := DU q hql
      rw [fl] at hdu
      refine s_if (evt_or (evt_not (evt_B (ev_isi (b := true) (ev_var rfl) rfl (by decide +kernel)))) (fun hc => (evt_test (ev_neS (ev_var rfl) (ev_callX (eva_cons (ev_var rfl) (eva_cons (ev_var rfl) eva_nil)) hdu) (by rfl))))) (fun hb => ?_) (fun hb => ?_)
      · rw [DD q] at hb
        simp at hb
      exact s_next (at_mk () trivial)

    refine q_seq (s_setl (evl_ofL (ev_var rfl)) ?_)
    refine q_seq (s_set (ev_tmo 16 rfl rfl (fun _ _ z => by cases z) (by simp only [puresF, prFs, List.all_cons, List.all_nil, Bool.and_true]; exact pures_int _) (ev_make (eva_cons (ev_var rfl) eva_nil) (R_prices.mk lv (by omega)))) ?_)
    refine q_seq (s_seto rfl (ev_oi ev_int ev_int) ev_int (ixN_ok (by decide) (by simp; omega)) ?_)
    have hsh := SH lv (by omega)
    rw [DD lv, decide_eq_true good] at hsh

    refine q_seq (s_if (evt_or (evt_test (ev_neP 8 (ev_fld (ev_var rfl) (cls_Prices T) (noat_Prices_levels T) rfl) (ev_tofL (ev_var rfl)) (okP_T fun _ => (okP_int _ _)) (okP_T fun _ => (okP_int _ _)) (eqP_tup (fun a b => eqP_int a b) _ _))) (fun hc => (evt_not (evt_B (ev_callX (eva_cons (ev_var rfl) (eva_cons (ev_var rfl) (eva_cons (ev_var rfl) eva_nil))) hsh))))) (fun hb => ?_) (fun hb => ?_))
    · simp at hb
    refine s_next ?_
    refine s_ret (ev_callX (eva_cons (ev_var rfl) (eva_cons (ev_var rfl) (eva_cons (ev_var rfl) (eva_cons (ev_var rfl) (eva_cons (ev_var rfl) (eva_cons (ev_var rfl) eva_nil)))))) (R_mf.mk ns p lv.length W (ordO rks) R st lv LT na hW ol (by omega))) ?_
    rfl
end
end G17
open PySem PySem.W PySem.Calls PyProof.Rows
theorem PySem.Challenge.cw_dealtbychance_k17_prices_judged_holds : PySem.Challenge.rw_dealtbychance_k17_prices_judged.Holds := by
  w_on; o_law
  refine HandSHeadRun.head_imp (r := OpenLaw.row PySem.Challenge.rw_dealtbychance_k17_prices_judged) (q := view (OpenLaw.row PySem.Challenge.rw_dealtbychance_k17_prices_judged).prog [0, 43]) (H := G17.hk) (ob := G17.ob) (M := 60000) (loose := G17.loose) (d := HandSHeadRun.topDef (OpenLaw.row PySem.Challenge.rw_dealtbychance_k17_prices_judged).prog 43) (kwd := []) G17.ob_eq
    G17.run (by kernel_rfl) (by kernel_rfl) (by kernel_rfl) (by rfl) (by first | assumption | decide +kernel) (by decide +kernel) ⟨rfl, rfl, rfl, rfl, rfl, by decide +kernel⟩ ?hw ?hc
  case hw => w_witness2
  case hc =>
    refine L3.walk_ofW (l := PySem.Challenge.rw_dealtbychance_k17_prices_judged) (n := 63) (k := 9) (x := "script") rfl (by decide) (by kernel_rfl) ⟨rfl, by decide, by decide⟩ ?F
    intro w mg fa h Y G hmg0
    obtain ⟨K, KX, c⟩ := Y
    have hmg : mg ("law" : PySem.Str) = some (.ref fa) := by
      have e : (HandSHeadRun.topDef (OpenLaw.row PySem.Challenge.rw_dealtbychance_k17_prices_judged).prog 43).name = ("law" : PySem.Str) := by kernel_rfl
      rw [← e]
      exact hmg0
    have T : G17.Tx K mg := ⟨⟨h, KX, G⟩, c⟩
    have e := hmg.symm.trans (G17.g_law T)
    cases e
    obtain ⟨fd, hb, hF⟩ := G17.ok_law (w := w) T
    exact ⟨K, fd, _, KX, hb, fun H a ns _ hO hS => L3.law_in (G17.R_law.mk ns) hO hS, fun base _ _ => hF base⟩

