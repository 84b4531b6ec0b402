import PyProof.Rows.All
import Wide.All
import OpenK.AllK
import Wide.FinOn
import HandS.ExcInit
import HandS.ExcIs
import HandS.ExcField
import HandS.Nested
import KE.KExcSuper
import KE.KSuperObj
import KE.KExcIs
import HandS.ForMost
import HandS.Rev
import HandS.WideBits
import HandS.Exc
import HandS.ExcOwn
import HandS.CallSlots
import HandS.IsInst
import HandS.TupAny
import HandS.TupMul
import HandS.Zip
import HandS.Style
import HandS.Defaults
import HandS.Lambda
import HandS.HeadEnd
import HandS.HeadHook1
import HandS.HeadHook2
import HandS.HeadHook4
import HandS.Head0
import HandS.Head1
import HandS.Head2
import KE.KBits
import KE.BitLaws
import KE.KStateDown
import HandS.More
import HandS.WordsExc
import PySem.Challenge.RW_errorskept_k06_whole_close_pairs
set_option Elab.async false
set_option linter.all false
set_option autoImplicit false
set_option maxRecDepth 100000
set_option maxHeartbeats 0
namespace XR
open PySem PySem.Spec PyProof.Rows L2 PySem.W NdefX
/-! An own exception class over ValueError (any classes between), whose __init__ says super().__init__(..), and perhaps self.f = f. -/
/-- the method-wrapper, called -/
theorem call_mw {prog : Program} {w : World} {A : Around} {E : Value → Shared → Prop} {h : Heap} {g : Array GenState} {d : Drawn} {t : Nat} {os : OsState} {nm q : Str} {C N : Addr} {bs bm : List Value} {hdct : Bool} {sn : List Str} {sub : List Value} {ab : Bool} {col : Option Bool} {dd : Option Addr} {k0 k1 k2 k3 k5 : Option Value}
    {u e t0 : Addr} {rest : List Value} {Q : Value → Shared → Prop}
    (hC : h.get? C = some (excClassObj nm q C N bs bm hdct sn sub ab col dd k0 k1 k2 k3 k5 "ValueError.__new__")) (he : h.get? e = some (HandSPX.excO C t0)) (hu : h.get? u = some (kxs_mw "ValueError.__init__" e)) (hrest : rest.length ≤ sizeLine)
    (hq : ∀ h' t1, (∀ b o, b ≠ e → h.get? b = some o → h'.get? b = some o) → h'.get? e = some (HandSPX.excO C t1) → Q .none ⟨h', g, d, t, os⟩) :
    wpAny (model prog w) A (call (.ref u) rest) Q E ⟨h, g, d, t, os⟩ := by
  refine wpAny_call (codeAny_of_tree ?_)
  show wpAny _ A.in1 (callAny (.ref u) ⟨rest, []⟩) _ _ _
  simp only [callAny]
  refine wpAny_bind (wpAny_load hu ?_)
  simp only [kxs_mw, show (Value.type "method-wrapper" == Value.type "method" || Value.type "method-wrapper" == Value.type "builtin_function_or_method" || Value.type "method-wrapper" == Value.type "method-wrapper") = true by decide, if_true]
  refine KFB.if_so (by decide) ?_
  refine wpAny_bind (check_bound_init F.excBase_ValueError.toExcCallFacts hC he rfl ?_)
  refine wpAny_bind (wpAny_pure (wpAny_pure ?_))
  refine ⟨plainId_quiet F.excBase_ValueError.init.plain _, codeAny_builtin F.excBase_ValueError.initEntry ?_⟩
  refine exc_init_tree (cls := .ref C) (t0 := t0) (dv := none) (c2 := .none) (c3 := .none) (b4 := .bool false) he hrest fun h' k e' _ => ?_
  exact hq h' _ k e'
end XR
namespace XR
open PySem PySem.Spec PyProof.Rows L2 PySem.W NdefX
/-- what is known of an own class C and its __init__'s frame -/
structure SupC (X : Cx) (C : Addr) (sf : Str) (i : Nat) : Prop where
  ex : OexC X.K C
  sup : ks_superIn X.K C C "__init__" = some (some (.builtin "ValueError.__init__"))
  sub : subIn X.K (.ref C) (.type "ValueError") = some true
  self_ : subIn X.K (.ref C) (.ref C) = some true
  opq : nsIn X.K cStatics "thirdparty.any" = some none
  cls : ∃ od cd sl, X.K.lookup C = some ⟨.type "type", od, .cls cd, sl⟩
  fun_ : ∃ f of fd ar, X.env.func = some f ∧ X.K.lookup f = some of ∧ of.data = .func fd ∧ (fd.params.posonlyargs ++ fd.params.args).head? = some ar ∧ ar.arg = sf
  code : ∃ cc oc vs file tf, X.env.code = .ref cc ∧ X.K.lookup cc = some oc ∧ oc.data = .fields vs ∧ vs[2]? = some (.str file tf) ∧ ((X.prog.main.file : Str) == file) = true
  top : (X.prog.main.scope.names.lookup ("super" : Str)).isSome = false
  gl : X.env.kindOf "super" = some .globalImplicit
  mg : X.mg "super" = none
  fr : X.env.kindOf "__class__" = some .free
  cell : ∃ c oc, X.env.cells.lookup ("__class__" : Str) = some c ∧ X.K.lookup c = some oc ∧ oc.data = .cell (some (.ref C))
  at_ : X.N[i]? = some sf
  vis : X.env.kindOf sf = some .local
theorem isType_cls {M : Model} {A : Around} {E : Value → Shared → Prop} {s : Shared} {D : Addr} {oD : Obj} {cd : ClassData} {Q : Bool → Shared → Prop} (hD : s.heap.get? D = some oD) (hd : oD.data = .cls cd) (hq : Q true s) : wpAny M A (isType (.ref D)) Q E s := by
  obtain ⟨h, g, d, t, os⟩ := s
  exact ks_wpAny_isType_cls hD hd hq
section
variable {X : Cx} {pins : List (Addr × Obj)} {σ : L2.St} {H : Hp} {s : Shared} {a C : Addr} {self : Str} {i : Nat} {body : List Stmt} {p0 p1 p2 p3 : Pos} {whole : Sem Value}
/-- super() -/
theorem super_at {Q : Value → Shared → Prop} (S : SupC X C self i) (I : Inv X pins σ H s) (hs : σ[i]? = some (some (.ref a))) (ha : H a = some (exo a C none))
    (h : ∀ so s', Inv X pins σ H s' → s'.heap.get? so = some (ks_superObj C a C) → Q (.ref so) s') :
    PySem.wpAt (model X.prog X.w) X.A (.func body X.env) (attributeBase (.Call (.Name "super" p0) [] [] p1) "__init__" X.env whole) Q X.xe s := by
  obtain ⟨f, of, fd, ar, f1, f2, f3, f4, f5⟩ := S.fun_
  obtain ⟨cc, oc, vs, file, tf, c1, c2, c3, c4, c5⟩ := S.code
  obtain ⟨c, oce, e1, e2, e3⟩ := S.cell
  obtain ⟨od, cd, sl, k1⟩ := S.cls
  have KX := I.kIn
  have vv : X.env.scope.names.lookup self = some .local := S.vis
  refine ks_wpAt_super_base (f := f) (cc := cc) (ar := ar) S.gl S.fr (by decide) f1 (KX _ _ f2) f3 f4 c1 (KX _ _ c2) c3 c4 c5 S.top ?_
  obtain ⟨mb, b1, b2⟩ := I.mod.blt
  refine ks_loadName_global I.ok.kind S.gl (Calls.loadGlobal_builtin (by rw [I.ok.glob]; exact I.mod.glob.keeps I.bk) S.mg (by rw [I.ok.blt]; exact b1.keeps I.bk) ((b2 "super" (by decide)).trans (by kernel_rfl : bootBuiltins "super" = some (.type "super"))) ⟨rfl, ?_⟩)
  refine wpAny_loadName_free I.ok.kind S.fr e1 ⟨_, KX _ _ e2, e3⟩ ?_
  obtain ⟨m, hn, hl⟩ := I.loc
  obtain ⟨u, r, l⟩ := hl i self (.ref a) S.at_ hs (.inl vv)
  obtain rfl : u = Value.ref a := r
  have hm : m self = some (.ref a) := by
    rcases l with ⟨_, hm⟩ | ⟨hk, _⟩
    · exact hm
    · rw [S.vis] at hk
      rcases hk with hk | hk <;> cases hk
  rw [f5]
  refine wpAny_loadName_local I.ok.kind S.vis hn hm ?_
  refine isType_cls (KX _ _ k1) rfl ⟨rfl, ?_⟩
  obtain ⟨t1, ho⟩ := exo_at I.hok ha
  obtain ⟨hp, g, d, t, os⟩ := s
  refine ks_wpAny_call_super (cdD := cd) (KX _ _ k1) rfl ho rfl (fun c z => by cases z) (looks_subIn KX S.self_) fun h' e k => ?_
  exact h _ _ (I.kept (t' := t) k) e
end
end XR
namespace XR
open PySem PySem.Spec PyProof.Rows L2 PySem.W NdefX
section
variable {X : Cx} {pins : List (Addr × Obj)} {σ : L2.St} {H : Hp} {s : Shared} {a C u : Addr} {sf : Str} {i : Nat} {body : List Stmt} {p0 p1 p2 p3 : Pos} {whole : Sem Value}
/-- the bound __init__, called -/
theorem mw_ok {A : Around} {E : Value → Shared → Prop} {us : List Value} {Q : Value → Shared → Prop} (T : OexC X.K C) (I : Inv X pins σ H s) (e : H a = some (exo a C none)) (hu : s.heap.get? u = some (kxs_mw "ValueError.__init__" a)) (hl : us.length ≤ sizeLine) (h : ∀ s', Inv X pins σ H s' → Q .none s') :
    wpAny (model X.prog X.w) A (call (.ref u) us) Q E s := by
  obtain ⟨nm, q, N, bs, bm, sn, sub, ab, col, dd, k0, k1, k2, k3, k5, hC, hbm⟩ := T.cls
  obtain ⟨t1, ho⟩ := exo_at I.hok e
  obtain ⟨hp, g, d, t, os⟩ := s
  refine call_mw (I.kIn _ _ hC) ho hu hl fun h' t2 k hx => ?_
  have J := I.write (t' := t) (x := a) (e := a) (o := exo a C none) (by rw [e]; exact True.intro) (.inl rfl) k ⟨_, hx⟩ (exo_ok hx)
  have eu : upd H a (exo a C none) = H := by
    funext b
    by_cases hb : b = a
    · rw [hb, upd_same, e]
    · rw [upd_ne hb]
  rw [eu] at J
  exact h _ J
/-- .__init__ of super() -/
theorem meth_at {so : Addr} {pl : Sem Bool} {A : Around} {E : Value → Shared → Prop} {Q : Value × List Value → Shared → Prop} (S : SupC X C sf i) (I : Inv X pins σ H s) (ha : H a = some (exo a C none)) (hso : s.heap.get? so = some (ks_superObj C a C))
    (h : ∀ u s', Inv X ((u, kxs_mw "ValueError.__init__" a) :: pins) σ H s' → Q (.ref u, []) s') : wpAny (model X.prog X.w) A (getMethod (.ref so) "__init__" pl) Q E s := by
  obtain ⟨od, cd, sl, k1⟩ := S.cls
  have KX := I.kIn
  have hc : clsIn X.K C = some cd := by
    unfold clsIn
    rw [k1]
  obtain ⟨t1, ho⟩ := exo_at I.hok ha
  have J : InstAt s.heap a _ C none := ⟨ho, rfl, rfl, trivial⟩
  have hI : Looks (model X.prog X.w) s.heap (isInstance (.ref a) (.type "ValueError")) true := J.type.andThen (looks_subIn KX S.sub)
  have hm := S.sup
  unfold ks_superIn at hm
  rw [hc] at hm
  obtain ⟨hp, g, d, t, os⟩ := s
  refine kxs_getMethod kxs_ValueError hso (looks_opaque KX S.opq) (l₀ := cd.mro) (fun A Q E s k q => wpAny_bind ((looks_clsIn KX hc) A _ E s k (wpAny_pure q))) rfl KX hm hI (ks_ne KX J hc) (by decide) ?_
  refine h _ _ ?_
  have I2 := I.kept (h' := hp.push (kxs_mw "ValueError.__init__" a)) (t' := t + 1) fun b o e => Heap.get?_push_of_some _ e
  have nH : H hp.objs.size = none := I.hok.fresh (Nat.le_refl _)
  refine ⟨I2.ok, I2.os, I2.bare, I2.base, I2.loc, I2.cell, I2.free, I2.freeC, fun p hp' => ?_, I2.hok, I2.len⟩
  rcases List.mem_append.mp hp' with z | z
  · exact I2.pin p (List.mem_append_left _ z)
  · rcases List.mem_cons.mp z with z | z
    · subst z
      refine ⟨Heap.get?_push_at rfl rfl, nH, Nat.ne_of_gt I.lt, I.nofs (Nat.le_refl _), fun v z => ?_⟩
      cases z
    · exact I2.pin p (List.mem_append_right _ z)
theorem Inv.pop {q : Addr × Obj} (I : Inv X (q :: pins) σ H s) : Inv X pins σ H s :=
  ⟨I.ok, I.os, I.bare, I.base, I.loc, I.cell, I.free, I.freeC, fun p hp => I.pin p (by
    rcases List.mem_append.mp hp with z | z
    · exact List.mem_append_left _ z
    · exact List.mem_append_right _ (List.mem_cons_of_mem _ z)), I.hok, I.len⟩
theorem Inv.pinned {q : Addr × Obj} (I : Inv X (q :: pins) σ H s) : s.heap.get? q.1 = some q.2 := (I.pin q (List.mem_append_right _ List.mem_cons_self)).1
/-- super().__init__() -/
theorem init0_at {Q : Value → Shared → Prop} {pl : Sem Bool} (S : SupC X C sf i) (I : Inv X pins σ H s) (hs : σ[i]? = some (some (.ref a))) (ha : H a = some (exo a C none)) (he : eval (.Call (.Attribute (.Call (.Name "super" p0) [] [] p1) "__init__" p2) [] [] p3) X.env = (do
      let ov ← attributeBase (.Call (.Name "super" p0) [] [] p1) "__init__" X.env (eval (.Call (.Name "super" p0) [] [] p1) X.env)
      standAt p2.atName
      let (f, first) ← holding [ov] (getMethod ov "__init__" pl)
      callWith p3 f first (backTo p3 (starEach [] X.env)) []))
    (h : ∀ s', Inv X pins σ H s' → Q .none s') :
    PySem.wpAt (model X.prog X.w) X.A (.func body X.env) (eval (.Call (.Attribute (.Call (.Name "super" p0) [] [] p1) "__init__" p2) [] [] p3) X.env) Q X.xe s := by
  refine ks_wpAt_MethodCall (super_at S I hs ha fun so s1 I1 hso => ?_) he
  refine meth_at S I1 ha hso fun u s2 I2 => ?_
  refine kxs_callWith (i := "ValueError.__init__") (x := a) rfl (evalArgs_empty ⟨Inv.pinned I2, ?_⟩)
  exact mw_ok S.ex (Inv.pop I2) ha (Inv.pinned I2) (by simp) h
/-- super().__init__(x) -/
theorem init1_at {Q : Value → Shared → Prop} {pl : Sem Bool} {x : Str} {px : Pos} {j : Nat} {y : V} (S : SupC X C sf i) (I : Inv X pins σ H s) (hs : σ[i]? = some (some (.ref a))) (ha : H a = some (exo a C none)) (hj : X.N[j]? = some x) (hv : Vis X.env.scope x) (hy : σ[j]? = some (some y))
    (hd : (x == ("__debug__" : Str)) = false) (hcd : (x == ("__classdict__" : Str)) = false) (he : eval (.Call (.Attribute (.Call (.Name "super" p0) [] [] p1) "__init__" p2) [.Name x px] [] p3) X.env = (do
      let ov ← attributeBase (.Call (.Name "super" p0) [] [] p1) "__init__" X.env (eval (.Call (.Name "super" p0) [] [] p1) X.env)
      standAt p2.atName
      let (f, first) ← holding [ov] (getMethod ov "__init__" pl)
      callWith p3 f first (backTo p3 (starEach [.Name x px] X.env)) []))
    (h : ∀ s', Inv X pins σ H s' → Q .none s') :
    PySem.wpAt (model X.prog X.w) X.A (.func body X.env) (eval (.Call (.Attribute (.Call (.Name "super" p0) [] [] p1) "__init__" p2) [.Name x px] [] p3) X.env) Q X.xe s := by
  refine ks_wpAt_MethodCall (super_at S I hs ha fun so s1 I1 hso => ?_) he
  refine meth_at S I1 ha hso fun u s2 I2 => ?_
  refine kxs_callWith (i := "ValueError.__init__") (x := a) rfl (PySem.Calls.evalArgs_plain ?_)
  refine thn ((pa_cons (pe_var hj hv hd hcd) pa_nil rfl).run p3 _ s2 σ H (fun vs H1 => H1 = H ∧ vs.length = 1) I2 ⟨y, hy, rfl, rfl⟩) fun us s3 ⟨vs, H3, I3, r, e, hl⟩ => ⟨Inv.pinned (show Inv X ((u, kxs_mw "ValueError.__init__" a) :: pins) σ H3 s3 from I3), ?_⟩
  subst e
  exact mw_ok S.ex (Inv.pop I3) ha (Inv.pinned I3) (by show us.length ≤ _; rw [← r.length, hl]; decide) h
end
end XR
namespace XR
open PySem PySem.Spec PyProof.Rows L2 PySem.W NdefX
theorem he_of {o : Expr} {name : Str} {apos pos : Pos} {args : List Expr} {env : Env} (hf : methodCallForm (args.length + ([] : List Keyword).length) (backTo pos (starEach args env)) (backToKw pos (keywordEach [] env)) = true) (hl : (apos.endLine == pos.line) = true) :
    eval (.Call (.Attribute o name apos) args [] pos) env = (do
      let ov ← attributeBase o name env (eval o env)
      standAt apos.atName
      let (f, first) ← holding [ov] (getMethod ov name (do return (← importBound o env).getD true))
      callWith pos f first (backTo pos (starEach args env)) []) := by
  rw [arm_eval_Call]
  unfold methodCall calleeOf methodCallPos
  simp only [hf, hl, if_true, Bool.not_true, Bool.or_true, pure_bind]
  rfl
/-- the words of an __init__, as the program has it -/
structure InitC (P : Program) (K : PySem.W.Frag) (mg : Str → Option Value) (C fI : Addr) (F : NF) (sf : Str) (ps : List Str) : Prop where
  ex : OexC K C
  lk : ∃ oc od doc pm ctv sl, K.lookup fI = some ⟨oc, od, .func (F.fd doc pm ctv), sl⟩
  cd : codeIn K (.ref F.c) F.qual = true
  file : ∃ oc vs file tf, K.lookup F.c = some oc ∧ oc.data = .fields vs ∧ vs[2]? = some (.str file tf) ∧ ((P.main.file : Str) == file) = true
  top : (P.main.scope.names.lookup ("super" : Str)).isSome = false
  cell : ∃ c oc, F.cl = [(("__class__" : Str), c)] ∧ K.lookup c = some oc ∧ oc.data = .cell (some (.ref C))
  par : ∃ ar, (F.params.posonlyargs ++ F.params.args).head? = some ar ∧ ar.arg = sf
  opq : nsIn K cStatics "thirdparty.any" = some none
  sup : ks_superIn K C C "__init__" = some (some (.builtin "ValueError.__init__"))
  sub : subIn K (.ref C) (.type "ValueError") = some true
  self_ : subIn K (.ref C) (.ref C) = some true
  S : NScope (ps ++ [("__class__" : Str)]) ps ["__class__"] F.scope
  gl : F.scope.names.lookup ("super" : Str) = some .globalImplicit
  mg : mg "super" = none
  bind : ∀ (doc pm ctv : Value) (us : List Value), us.length = ps.length → bindArgs (F.fd doc pm ctv) ⟨us, []⟩ = pure (ps.zip us)
  ps0 : ps[0]? = some sf
  base : C ≠ fI
section
variable {P : Program} {w : World} {K : PySem.W.Frag} {mg : Str → Option Value} {base : Heap} {C fI : Addr} {F : NF} {sf : Str} {ps : List Str} {CX : CXT} {k : Nat} {sp : Sp}
theorem InitC.supC {A : Around} {outer : List Env} {s : Shared} {H : Hp} {E : XK} (I : InitC P K mg C fI F sf ps) : SupC (ncx CX P w K mg base (ps ++ [("__class__" : Str)]) F fI A outer s H E) C sf 0 := by
  obtain ⟨nm, q, N, bs, bm, sn, sub, ab, col, dd, k0, k1, k2, k3, k5, hC, hbm⟩ := I.ex.cls
  obtain ⟨oc, od, doc, pm, ctv, sl, lk⟩ := I.lk
  obtain ⟨ar, p1, p2⟩ := I.par
  obtain ⟨oc2, vs, file, tf, c1, c2, c3, c4⟩ := I.file
  obtain ⟨c, oce, e1, e2, e3⟩ := I.cell
  have fr : F.scope.names.lookup ("__class__" : Str) = some .free := I.S.frk _ (by simp)
  have h0 := I.ps0
  refine ⟨I.ex, I.sup, I.sub, I.self_, I.opq, ⟨_, _, _, hC⟩, ⟨fI, _, _, ar, rfl, lk, rfl, p1, p2⟩, ⟨F.c, oc2, vs, file, tf, rfl, c1, c2, c3, c4⟩, I.top, I.gl, I.mg, fr, ⟨c, oce, ?_, e2, e3⟩, ?_, ?_⟩
  · show F.cl.lookup ("__class__" : Str) = some c
    rw [e1]
    simp [List.lookup]
  · show (ps ++ [("__class__" : Str)])[0]? = some sf
    rw [List.getElem?_append_left (by rw [List.getElem?_eq_some_iff] at h0; exact h0.1)]
    exact h0
  · exact I.S.par _ (List.mem_of_getElem? h0)
/-- __init__ as a def -/
theorem init_fn (I : InitC P K mg C fI F sf ps) (len : ∀ vs H Q E, sp vs H Q E → vs.length = ps.length)
    (hb : ∀ (A : Around) (outer : List Env) (s s1 : Shared) (H : Hp) (vs : List V) (Q : VK) (E : XK) (X : Cx), X = ncx CX P w K mg base (ps ++ [("__class__" : Str)]) F fI A outer s H E → SupC X C sf 0 → L2.Inv X [] (startF (ps ++ [("__class__" : Str)]) vs [some (.ref C)]) H s1 → vs.length = ps.length → sp vs H Q E →
      PySem.wpAt (model P w) X.A (.func F.body X.env) (execs F.body X.env) (SP X [] { nx := fun _ H' => Q .non H', rt := Q }) X.xe s1)
    {doc pm ctv : Value} (lk : ∃ oc od sl, K.lookup fI = some ⟨oc, od, .func (F.fd doc pm ctv), sl⟩) : FnOk P w K mg base CX (k + 1) fI (F.fd doc pm ctv) ps sp := by
  obtain ⟨oc, od, sl, lk⟩ := lk
  obtain ⟨c, oce, e1, e2, e3⟩ := I.cell
  refine ⟨len, fun A outer s H args us vs Q E hr e0 hbt r hsp => ?_⟩
  have hl := len _ _ _ _ hsp
  have KX : K.In s.heap := e0.mod.kin.keeps fun b o e => (e0.bs b o e).1
  have lim : s.heap.NoLimit := e0.mod.nolimit.keeps fun b o e => (e0.bs b o e).1
  have kb := e0.mod.kin _ _ e2
  have Ca : CellsAt F.cl ["__class__"] [some (.ref C)] s.heap H := by
    refine ⟨rfl, fun y c' e => ?_, fun x y c' ex ey => ?_, fun i y e => ?_⟩
    · rw [e1] at e
      have ec : c' = c := by
        by_cases z : y = ("__class__" : Str)
        · subst z
          simp [List.lookup] at e
          exact e.symm
        · have : (y == ("__class__" : Str)) = false := beq_eq_false_iff_ne.mpr z
          simp [List.lookup, this] at e
      subst ec
      exact ⟨(e0.bs _ _ kb).2, _, _, KX _ _ e2, e3⟩
    · rw [e1] at ex ey
      have z : ∀ z : Str, List.lookup z [(("__class__" : Str), c)] = some c' → z = ("__class__" : Str) := fun z e => by
        by_cases h : z = ("__class__" : Str)
        · exact h
        · have : (z == ("__class__" : Str)) = false := beq_eq_false_iff_ne.mpr h
          simp [List.lookup, this] at e
      rw [z x ex, z y ey]
    · cases i with
      | zero =>
        cases e
        refine ⟨c, by rw [e1]; simp [List.lookup], fun v ev => ?_⟩
        cases ev
        exact ⟨.ref C, rfl, _, KX _ _ e2, e3⟩
      | succ i => simp at e
  refine codeAny_call_function hr.depth (KX _ _ lk) rfl I.S.co I.S.gen rfl (codeRec_of KX I.cd) (hbt _ _ _ _ ?_)
  refine wpAny_newFunctionEnv I.S.nocell (fun ⟨n, _⟩ hy => I.S.par n (List.of_mem_zip hy).1) (fun h₁ hns hsb => ⟨lim.fresh _ hsb, ?_⟩) I.S.kind
  show codeAny _ _ (.func F.body (envF F fI s.heap.objs.size)) _ _
  refine ks_codeAny_funcAt ?_
  have kp : ∀ b o, s.heap.get? b = some o → h₁.get? b = some o := fun b o e => hsb.extBut b o (Nat.ne_of_lt (Heap.lt_size e)) (Heap.get?_push_of_some _ e)
  have J : L2.Inv (ncx CX P w K mg base (ps ++ [("__class__" : Str)]) F fI A outer s H E) [] (startF (ps ++ [("__class__" : Str)]) vs [some (.ref C)]) H { s with heap := h₁, toks := s.toks + (ps.zip us).length } := inv_startN I.S hr.hd e0 hl r Ca hns kp
  refine PySem.wpAt_mono (hb A outer s _ H vs Q E _ rfl I.supC J hl hsp) (fun fl s' hs => ?_) fun e s' hs => hs
  have fin : ∀ {σ' : L2.St} {H' : Hp} {v : V} {u : Value}, L2.Inv (ncx CX P w K mg base (ps ++ [("__class__" : Str)]) F fI A outer s H E) [] σ' H' s' → L2.RelV v u → Q v H' → CE outer P w H s Q u s' :=
    fun {σ' H' v u} J rv q => ⟨v, H', J.os, J.bare, J.base, J.hok, rv, q⟩
  cases fl with
  | ret u =>
    obtain ⟨v, σ', H', J, rv, q⟩ := hs
    exact fin J rv q
  | next =>
    obtain ⟨σ', H', J, q⟩ := hs
    exact fin (v := V.non) (u := Value.none) J rfl q
  | brk =>
    obtain ⟨_, _, _, q⟩ := hs
    exact False.elim q
  | cont =>
    obtain ⟨_, _, _, q⟩ := hs
    exact False.elim q
end
end XR
namespace XR
open PySem PySem.Spec PyProof.Rows L2 PySem.W NdefX
theorem int_no {env : Env} (h : env.scope.kind = .function) : interactive env = false := by
  unfold interactive
  rw [h]
  rfl
def sp0 (C : Addr) : Sp := fun vs H Q _ => ∃ a, vs = [.ref a] ∧ H a = some (exo a C none) ∧ Q .non H
def sp1 (C : Addr) (f : Str) : Sp := fun vs H Q _ => ∃ a y, vs = [.ref a, y] ∧ H a = some (exo a C none) ∧ ∀ dx, H dx = none → dx ≠ a → Q .non (upd (upd H dx (exd dx [(f, y)])) a (exo a C (some dx)))
section
variable {P : Program} {w : World} {K : PySem.W.Frag} {mg : Str → Option Value} {base : Heap} {C fI : Addr} {F : NF} {sf x f : Str} {CX : CXT} {k : Nat} {p0 p1 p2 p3 p4 px p5 p6 p7 p8 : Pos}
theorem fn0 (I : InitC P K mg C fI F sf [sf]) (hbody : F.body = [.Expr (.Call (.Attribute (.Call (.Name "super" p0) [] [] p1) "__init__" p2) [] [] p3) p4]) (hl : (p2.endLine == p3.line) = true)
    {doc pm ctv : Value} (lk : ∃ oc od sl, K.lookup fI = some ⟨oc, od, .func (F.fd doc pm ctv), sl⟩) : FnOk P w K mg base CX (k + 1) fI (F.fd doc pm ctv) [sf] (sp0 C) := by
  refine init_fn I (fun vs H Q E ⟨a, e, _⟩ => by rw [e]; rfl) (fun A outer s s1 H vs Q E X hX S J hlen hsp => ?_) lk
  obtain ⟨a, rfl, ha, q⟩ := hsp
  subst hX
  rw [hbody]
  refine ks_wpAt_execs_cons (ks_wpAt_Expr_any (init0_at S J rfl ha (he_of rfl hl) fun s' J' => ?_) (int_no I.S.kind) rfl)
  exact PySem.wpAt_of_wpAny (wpAny_execs_nil ⟨_, _, J', q⟩)
theorem fn1 (I : InitC P K mg C fI F sf [sf, x]) (hbody : F.body = [.Expr (.Call (.Attribute (.Call (.Name "super" p0) [] [] p1) "__init__" p2) [.Name x px] [] p3) p4, .Assign [.Attribute (.Name sf p5) f p6] (.Name x p7) p8]) (hl : (p2.endLine == p3.line) = true)
    (hno : findIn K (.ref C) f = some none) (hd : (x == ("__debug__" : Str)) = false) (hcd : (x == ("__classdict__" : Str)) = false) (hd2 : (sf == ("__debug__" : Str)) = false) (hcd2 : (sf == ("__classdict__" : Str)) = false)
    {doc pm ctv : Value} (lk : ∃ oc od sl, K.lookup fI = some ⟨oc, od, .func (F.fd doc pm ctv), sl⟩) : FnOk P w K mg base CX (k + 1) fI (F.fd doc pm ctv) [sf, x] (sp1 C f) := by
  refine init_fn I (fun vs H Q E ⟨a, y, e, _⟩ => by rw [e]; rfl) (fun A outer s s1 H vs Q E X hX S J hlen hsp => ?_) lk
  obtain ⟨a, y, rfl, ha, q⟩ := hsp
  have v0 : F.scope.names.lookup sf = some .local := I.S.par _ (by simp)
  have v1 : F.scope.names.lookup x = some .local := I.S.par _ (by simp)
  subst hX
  rw [hbody]
  refine ks_wpAt_execs_cons (ks_wpAt_Expr_any (init1_at (j := 1) (y := y) S J rfl ha rfl (.inl v1) rfl hd hcd (he_of rfl hl) fun s' J' => ?_) (int_no I.S.kind) rfl)
  refine PySem.wpAt_of_wpAny ?_
  have r := (pss_cons (ps_ost (pos := p8) (p' := p6) (f := f) (pe_var (X := ncx CX P w K mg base ([sf, x] ++ [("__class__" : Str)]) F fI A outer s H E) (i := 0) (pos := p5) rfl (.inl v0) hd2 hcd2) (pe_var (i := 1) (pos := p7) rfl (.inl v1) hd hcd) rfl) pss_nil).run [] s' _ H { nx := fun _ H' => Q .non H', rt := Q } J'
  refine r ?_
  exact ⟨y, rfl, .ref a, rfl, a, C, rfl, I.ex, hno, .inl ⟨ha, q⟩⟩
end
end XR
namespace XR
open PySem PySem.Spec PyProof.Rows L2 PySem.W NdefX
section
variable {X : Cx}
/-- the end of C(): the exception is let go; it has no dict -/
theorem mk_endN {pins : List (Addr × Obj)} {σ : L2.St} {H1 H2 : Hp} {Q : XK} {hp hp2 h2 : Heap} {g1 g2 : Array GenState} {d1 d2 : Drawn} {t1 t2 : Nat} {os1 os2 : OsState} {a C : Addr} (T : Raises X (.ref C)) (I1 : L2.Inv X pins σ H1 ⟨hp, g1, d1, t1, os1⟩)
    (ha : hp.objs.size ≤ a) (k : ∀ b o, hp.get? b = some o → hp2.get? b = some o) (un : Un (frs X.stack) [] (upd H1 a (exo a C none)) H2 hp2 h2) (hok : HOk X.prog X.w H2 h2) (ho : os2 = os1) (hb : AllBare g2)
    (ea : H2 a = some (exo a C none)) (q : Q (.ref C) none (del H2 a)) : MkP X pins σ Q (.ref a) ⟨h2, g2, d2, t2, os2⟩ := by
  obtain ⟨t0, hoe⟩ := exo_at hok ea
  have hn : H1 a = none := I1.hok.fresh ha
  obtain ⟨G, g1', g2'⟩ := restrict h2 fun b => decide (b ≠ a)
  have gk : ∀ b, b ≠ a → G.get? b = h2.get? b := fun b hb => g1' b (decide_eq_true hb)
  have ge : G.get? a = none := g2' a (by simp)
  have nha : ∀ {b : Addr} {o : Obj}, hp.get? b = some o → b ≠ a := fun {b o} z => Nat.ne_of_lt (Nat.lt_of_lt_of_le (Heap.lt_size z) ha)
  have up : ∀ {b : Addr}, b ≠ a → H1 b = none → upd H1 a (exo a C none) b = none := fun {b} hb n => by rw [upd_ne hb]; exact n
  have U : Un (frs X.stack) [] H1 (del H2 a) hp G := {
    keep := fun b o z n hf hx => by
      rw [gk b (nha z)]
      exact un.keep b o (k b o z) (up (nha z) n) hf hx
    slot := fun b o z n hf hx => by
      rw [gk b (nha z)]
      exact un.slot b o (k b o z) (up (nha z) n) hf hx
    free := fun b o z n hx => by
      rw [del_ne (nha z)]
      exact un.free b o (k b o z) (up (nha z) n) hx
    there := fun b o z hx => by
      rw [gk b (nha z)]
      exact un.there b o (k b o z) hx
    tups := fun b xs z => by
      rw [del_ne (ne_of_none z hn)]
      exact un.tups b xs (by rw [upd_ne (ne_of_none z hn)]; exact z)
    frzs := fun b o v z => by
      rw [del_ne (ne_of_none z hn)]
      exact un.frzs b o v (by rw [upd_ne (ne_of_none z hn)]; exact z)
    tbls := fun b ps z => by
      rw [del_ne (ne_of_none z hn)]
      exact un.tbls b ps (by rw [upd_ne (ne_of_none z hn)]; exact z) }
  have hok3 : HOk X.prog X.w (del H2 a) G := fun b o z => by
    have hba : b ≠ a := fun e => by
      rw [e, del_same] at z
      cases z
    rw [del_ne hba] at z
    have noa : ∀ {c : Addr}, H2 c = some (.own b) → c ≠ a := fun {c} hc => at_ne ea hc exo_own
    exact (hok b o z).stay (fun c v hc y => by
        have hca : c ≠ a := by
          rcases hc with hc | hc
          · rw [hc]
            exact hba
          · exact noa hc
        rw [gk c hca]
        exact y)
      (fun c hc => by rw [del_ne (noa hc)]; exact hc) (fun c xs hc => by rw [del_ne (at_ne ea hc exo_tup)]; exact hc)
  have J : L2.Inv X pins σ (del H2 a) ⟨G, g2, d2, t2, os2⟩ := I1.call' (ch := []) ho U hok3 hb (fun b z => absurd z (by simp))
  refine ⟨a, _, _, ⟨G, g2, d2, t2, os2⟩, _, .ref C, none, rfl, J, fun b o z => ?_, ge, hoe, ⟨rfl, rfl⟩, rfl, rfl, del_same, rfl, hb, T, q⟩
  by_cases hba : b = a
  · rw [hba, ge] at z
    cases z
  · exact (gk b hba).symm.trans z
/-- C(), C's own __init__ keeping sp -/
def tMkN (C : Addr) (sp : Sp) : L2.St → Hp → XK → Prop := fun σ H Q => ∀ a, H a = none → sp [.ref a] (upd H a (exo a C none)) (fun v H2 => v = .non ∧ H2 a = some (exo a C none) ∧ Q (.ref C) none (del H2 a)) (fun _ _ _ => False)
theorem pmk_oexN {CX : CXT} {x : Str} {C fI : Addr} {k : Nat} {fd : FuncData} {ps : List Str} {sp : Sp} {p pos : Pos} (T : OexC X.K C) (iC : PySem.W.findIn X.K (.ref C) "__init__" = some (some (.ref fI))) (tI : PySem.W.typeIn X.K (.ref fI) = some (.type "function"))
    (F1 : FnOk X.prog X.w X.K X.mg X.base CX k fI fd ps sp) (hr : Room (k + 1) X.A) (hb : Binds X.K fd ps []) (hx : Passes CX X (fun _ _ _ => False)) (hg : Gl X x) (hm : X.mg x = some (.ref C))
    (hdb : (x == ("__debug__" : Str)) = false) : PMk X (.Call (.Name x p) [] [] pos) (tMkN C sp) := by
  intro pins s σ H Q I h
  obtain ⟨nm, q, N, bs, bm, sn, sub, ab, col, dd, k0, k1, k2, k3, k5, hC, hbm⟩ := T.cls
  refine wpAny_Call_Name_kw (ld_glob I hg hm ?_ hdb)
  refine PySem.W.callWith_K0 I.kIn T.kC ?_
  obtain ⟨hp, g, dr, tk, os⟩ := s
  have hsz : hp.objs.size ≤ hp.objs.size + 1 := Nat.le_succ _
  have hn : H (hp.objs.size + 1) = none := I.hok.fresh hsz
  have hq := h (hp.objs.size + 1) hn
  have kk : ∀ b o, hp.get? b = some o → ((hp.push (PySem.W.kdv_tup [])).push (PySem.HandSPX.excO C hp.objs.size)).get? b = some o := fun b o e => Heap.get?_push_of_some _ (Heap.get?_push_of_some _ e)
  have hget : ((hp.push (PySem.W.kdv_tup [])).push (PySem.HandSPX.excO C hp.objs.size)).get? (hp.objs.size + 1) = some (PySem.HandSPX.excO C hp.objs.size) := by heap_get
  have I2 : L2.Inv X pins σ (upd H (hp.objs.size + 1) (exo (hp.objs.size + 1) C none)) ⟨(hp.push (PySem.W.kdv_tup [])).push (PySem.HandSPX.excO C hp.objs.size), g, dr, tk, os⟩ :=
    I.laid (t' := tk) (a := hp.objs.size + 1) (o := exo (hp.objs.size + 1) C none) (h' := (hp.push (PySem.W.kdv_tup [])).push (PySem.HandSPX.excO C hp.objs.size)) kk hsz (exo_ok hget)
  have r2 : Vals [V.ref (hp.objs.size + 1)] [Value.ref (hp.objs.size + 1)] := .cons rfl .nil
  have hl : ([Value.ref (hp.objs.size + 1)] : List Value).length = ps.length := by
    have e := r2.length
    rw [F1.len _ _ _ _ hq] at e
    exact e.symm
  refine wpAny_call (PySem.HandSPX.call_own F.excBase_ValueError (fun Y => PySem.HandSPX.refsVE_contains Y bm hbm) (I.kIn _ _ hC) (PySem.W.looks_findIn I.kIn iC) (fun self => PySem.W.bind_fn I.kIn self tI) (by simp)
    (codeAny_mono (F1.run _ X.stack _ _ ⟨[Value.ref (hp.objs.size + 1)], []⟩ [Value.ref (hp.objs.size + 1)] _ _ (fun _ _ _ => False) (hr.make C [] []) (I2.env0.make C [] []) (hb _ [Value.ref (hp.objs.size + 1)] I2.kIn hl) r2 hq) fun r s' hq' => ?_))
  cases r with
  | error er => exact hx pins σ _ _ er s' I2 hq'
  | ok fl =>
    cases fl with
    | ret u =>
      obtain ⟨v, H2, os2, bare2, un2, hok2, rv, ev, ea, q2⟩ := hq'
      subst ev
      obtain ⟨h2, g2, d2, t2, os'⟩ := s'
      exact ⟨rv, mk_endN (raises_own T.exC T.tyC) I hsz kk un2 hok2 os2 bare2 ea q2⟩
    | next => exact False.elim hq'
    | brk => exact False.elim hq'
    | cont => exact False.elim hq'
end
end XR
namespace XR
open PySem PySem.Spec PyProof.Rows L2 PySem.W NdefX
/-- what the class D must say, so that isinstance asks its instances rightly -/
structure IsC (K : PySem.W.Frag) (D : Addr) : Prop where
  hc : (clsIn K D).isSome = true
  hg : findIn K (.ref D) "__getattribute__" = some (some (.builtin "BaseException.__getattribute__"))
  hk : findIn K (.ref D) "__getattr__" = some none
  hs : subIn K (.ref D) (.type "BaseException") = some true
  ha : findIn K (.ref D) "__class__" = some (some (.builtin "object.__class__"))
  hn : specialIn K (.builtin "object.__class__") "__get__" = some (some (.builtin "getset_descriptor.__get__"))
  ht : takesIn K (.builtin "object.__class__") = some true
  hm : mroIn K D (.type "object") = some true
/-- the classes asked: one, or a tuple of them -/
def clsVal : V → Option Value
  | .ref a => some (.ref a)
  | .ty n => some (.type n)
  | _ => none
def AskB (K : PySem.W.Frag) (H : Hp) (t : Value) (c : V) (b : Bool) : Prop :=
  (∃ cv, (∀ u, RelV c u → u = cv) ∧ kitOne K t cv = some b) ∨ ∃ p vs us, c = .ref p ∧ SqT K H p vs ∧ (∀ ws, Vals vs ws → ws = us) ∧ kitAny K t us = some b
/-- isinstance(e, c), e the exception that the suite holds -/
def rIsX (K : PySem.W.Frag) (D a : Addr) (d : Option Addr) : List V → Hp → VK → Prop := fun xs H Q => ∃ (c : V) (b : Bool), xs = [.ref a, c] ∧ (∀ dd, d = some dd → ∃ fs, H dd = some (.xd fs)) ∧ AskB K H (.ref D) c b ∧ Q (.bl b) H
theorem call_isX {X : Cx} {a D : Addr} {oe : Obj} {d : Option Addr} {pn : List (Addr × Obj)} (C : IsC X.K D) (hz : Zc (.ref D) d oe) (hf : ∃ vs, oe.data = .fields vs) : CallR (X.suite a ((a, oe) :: pn)) (.builtin "isinstance") (rIsX X.K D a d) := by
  intro pins s σ H xs us Q I r h
  obtain ⟨c, b, rfl, hd, e, q⟩ := h
  cases r with
  | cons rx rr =>
    cases rr with
    | cons rt rr =>
      cases rr
      cases rx
      obtain ⟨hget, _⟩ := I.pin (a, oe) (List.mem_append.mpr (.inl List.mem_cons_self))
      obtain ⟨vs, hv⟩ := hf
      have J : ∃ od, InstAt s.heap a oe D od := by
        obtain ⟨h1, h2⟩ := hz
        cases d with
        | none => exact ⟨none, hget, h1, by unfold notCls; rw [hv] <;> rfl, by rw [h2]; trivial⟩
        | some dd =>
          obtain ⟨fs, hx⟩ := hd dd rfl
          have hx : ObjOk X.prog X.w H s.heap dd (.xd fs) := I.hok dd _ hx
          obtain ⟨mA, hns, hr⟩ := hx
          obtain ⟨od, ho, hl⟩ := lookIn_ns hns
          exact ⟨some od, hget, h1, by unfold notCls; rw [hv] <;> rfl, by rw [h2]; exact ho⟩
      obtain ⟨od, J⟩ := J
      have Z : KitX X.K (.ref a) (.ref D) (fun h => InstAt h a oe D od) := kitx_exc C.hc C.hg C.hk C.hs C.ha C.hn C.ht C.hm
      have fin : ∀ tk, EP (X.suite a ((a, oe) :: pn)) pins σ Q (.bool b) { s with toks := tk } := fun tk => ⟨.bl b, H, I.kept (t' := tk) fun _ _ z => z, rfl, q⟩
      rcases e with ⟨cv, e1, e2⟩ | ⟨p, ws, us', rfl, e1, e2, e3⟩
      · have ec := e1 _ rt
        subst ec
        exact kia_one Z I.kIn J e2 (fun z => nomatch z) fin
      · obtain ⟨its, ri, ⟨tp, hp, hc, hdt⟩, _⟩ := I.tuple e1
        have ei := e2 _ ri
        subst ei
        cases rt
        obtain ⟨oc, odd, odt, osl⟩ := tp
        obtain ⟨n, hdt⟩ := hdt
        dsimp only at hc hdt
        subst hc hdt
        exact kia_tup Z I.kIn J hp e3 (fun z => nomatch z) fin
end XR
/-! list(reversed(a list)) -/
namespace RV
open PySem PySem.Spec PyProof.Rows L2 RT
section
variable {prog : Program} {w : World} {A : Around} {E : Value → Shared → Prop} {s : Shared}
theorem ext_rev {R : Result → Shared → Prop} {it l : Addr} {items : Array Value} (hh : A.handled = none) (hit : s.heap.IsRevIter it l ((items.size : Int) - 1)) (hl : s.heap.IsList l items) (hne : l ≠ it) (hn : items.size ≤ sizeLine)
    (S : Addr) (res : Value) (c₀ : Nat) (hS : s.heap.get? S = some { cls := .type "list", data := .seq #[] c₀ }) (hSi : S ≠ it) (hSl : S ≠ l)
    (hR : ∀ h' tk acc' c', (∀ b o, b ≠ S → b ≠ it → s.heap.get? b = some o → h'.get? b = some o) → h'.get? S = some { cls := .type "list", dict := none, data := .seq acc' c', slots := #[] } →
      ItemsOf (fun i v => items[items.size - 1 - i]? = some v) acc' items.size → R (.ok (.ret res)) { s with heap := h', toks := tk }) :
    wpAny (model prog w) A.in1 (Builtin.List.listExtendWith (.ref S) (.ref it) res)
      (fun fin s' => match fin with | .done f => R (.ok f) s' | .again c' => c'.quiet = true ∧ codeAny (model prog w) A c' R s') (fun e s' => R (.error e) s') s := by
  have W := (Walks.listRev (prog := prog) (w := w) (A := A.in1) hh it l hne items).toS
  have hSf : S ∉ [it, l] := by simp only [List.mem_cons, List.not_mem_nil, or_false, not_or]; exact ⟨hSi, hSl⟩
  have hT : s.TypeIs (.ref it) "list_reverseiterator" := hit.typeIs
  have h1 : Builtin.List.listSameRef (.ref S) (.ref it) = false := by simp [Builtin.List.listSameRef, hSi]
  unfold Builtin.List.listExtendWith
  refine wpAny_bind (wpAny_typeOf hT ?_)
  rw [if_neg (by rw [h1]; decide)]
  refine wpAny_bind (wpAny_pyIter_revIter hit ?_)
  refine wpAny_bind (wpAny_holding ?_)
  unfold Builtin.List.listLengthHint
  refine wpAny_bind (wpAny_specialOf hT nolen_lri ?_)
  show wpAny _ A.in1 (specialOf (Value.ref it) (Str.ofString "__length_hint__") >>= _) _ _ _
  refine wpAny_bind (wpAny_specialOf hT hint_lri ?_)
  generalize hid : ("list_reverseiterator.__length_hint__" : String) = id0
  wp_delta
  rw [show splitId id0 = some ("list_reverseiterator", "__length_hint__") from by subst hid; decide +kernel]
  subst hid
  refine wpAny_bind (wpAny_isInstance (b := true) hT (by rw [isSubtype_type]; kernel_rfl) ?_)
  refine wpAny_pure ?_
  rw [if_neg (by decide)]
  have e0 : ((items.size : Nat) : Int) - 1 - ((0 : Nat) : Int) = (items.size : Int) - 1 := by omega
  refine wpAny_pure ⟨plainId_quiet F.plain_extend_loop _, codeAny_extend_loopS W hn _ hSf _ items.size 0 _ _ _ rfl (Nat.zero_le _) ⟨Nat.zero_le _, by rw [e0]; exact hit, hl⟩ hS (ItemsOf.nil _) fun s' acc' c' hm hS' hacc => ?_⟩
  rw [Moved.eq_with hm]
  refine hR s'.heap s'.toks acc' c' (fun b o hb hi e => hm.heap b o (fun hmem => ?_) e) hS' hacc
  rcases List.mem_cons.mp hmem with e' | hmem
  · exact hb e'
  · exact hi (List.mem_singleton.mp hmem)
theorem init_rev {R : Result → Shared → Prop} {it l : Addr} {items : Array Value} (hh : A.handled = none) (hit : s.heap.IsRevIter it l ((items.size : Int) - 1)) (hl : s.heap.IsList l items) (hne : l ≠ it) (hn : items.size ≤ sizeLine)
    (S : Addr) (hS : s.heap.get? S = some { cls := .type "list", data := .seq #[] }) (hSi : S ≠ it) (hSl : S ≠ l)
    (hR : ∀ h' tk acc' c', (∀ b o, b ≠ S → b ≠ it → s.heap.get? b = some o → h'.get? b = some o) → h'.get? S = some { cls := .type "list", dict := none, data := .seq acc' c', slots := #[] } →
      ItemsOf (fun i v => items[items.size - 1 - i]? = some v) acc' items.size → R (.ok (.ret .none)) { s with heap := h', toks := tk }) :
    wpAny (model prog w) A.in1 (Builtin.«list.__init__» ⟨[.ref S, .ref it], []⟩)
      (fun fin s' => match fin with | .done f => R (.ok f) s' | .again c' => c'.quiet = true ∧ codeAny (model prog w) A c' R s') (fun e s' => R (.error e) s') s := by
  show wpAny _ _ (do let old ← Builtin.List.listItems (.ref S); Builtin.List.listUpdate (.ref S) (fun _ => #[]); letGo old.toList.reverse; Builtin.List.listExtendWith (.ref S) (.ref it) .none) _ _ s
  refine wpAny_bind ?_
  unfold Builtin.List.listItems
  refine wpAny_bind (wpAny_seqItems hS rfl (wpAny_pure ?_))
  show wpAny _ _ (updateSeq S (fun _ => #[]) >>= fun _ => letGo (#[] : Array Value).toList.reverse >>= fun _ => Builtin.List.listExtendWith (.ref S) (.ref it) .none) _ _ s
  refine wpAny_bind (wpAny_updateSeq hS rfl ?_)
  have hS₂ := Heap.get?_update_self (Obj.mapSeq (fun _ => (#[] : Array Value))) hS rfl
  have oth : ∀ b o, b ≠ S → s.heap.get? b = some o → (s.heap.update S (Obj.mapSeq (fun _ => (#[] : Array Value)))).get? b = some o :=
    fun b o hb e => (Heap.get?_update_other _ _ (Ne.symm hb)).trans e
  refine wpAny_bind (wpAny_letGo ?_)
  have hl2 : (s.heap.update S (Obj.mapSeq (fun _ => (#[] : Array Value)))).IsList l items := by
    obtain ⟨o, ho, r⟩ := hl
    exact ⟨o, oth l o (Ne.symm hSl) ho, r⟩
  refine ext_rev (s := { s with heap := s.heap.update S (Obj.mapSeq (fun _ => (#[] : Array Value))) }) hh (hit.at fun o e => oth it o (Ne.symm hSi) e) hl2 hne hn S .none _ hS₂ hSi hSl fun h' tk acc' c' hk hS' hacc => ?_
  exact hR h' tk acc' c' (fun b o hb hi e => hk b o hb hi (oth b o hb e)) hS' hacc
theorem call_list_rev {Q : Value → Shared → Prop} {it l : Addr} {items : Array Value} (hh : A.handled = none) (hit : s.heap.IsRevIter it l ((items.size : Int) - 1)) (hl : s.heap.IsList l items) (hne : l ≠ it) (hn : items.size ≤ sizeLine)
    (hQ : ∀ h' tk acc' c', (∀ b o, b ≠ it → s.heap.get? b = some o → h'.get? b = some o) →
      h'.get? s.heap.objs.size = some { cls := .type "list", dict := none, data := .seq acc' c', slots := #[] } → ItemsOf (fun i v => items[items.size - 1 - i]? = some v) acc' items.size → Q (.ref s.heap.objs.size) { s with heap := h', toks := tk }) :
    wpAny (model prog w) A (call (.type "list") [.ref it]) Q E s := by
  obtain ⟨oi, hoi, _⟩ := id hit
  obtain ⟨ol, hol, _⟩ := id hl
  have hSi : s.heap.objs.size ≠ it := Nat.ne_of_gt (Heap.lt_size hoi)
  have hSl : s.heap.objs.size ≠ l := Nat.ne_of_gt (Heap.lt_size hol)
  refine callType_codes (Q₁ := fun obj s₁ => obj = .ref s.heap.objs.size ∧ s₁ = { s with heap := s.heap.push { cls := .type "list", data := .seq #[] } }) F.called_list (F.typeCall_list_1 _) F.entry_list_init
    (code_list_new _ ⟨rfl, rfl⟩) fun obj s₁ h₁ => ?_
  obtain ⟨rfl, rfl⟩ := h₁
  have hS : (s.heap.push { cls := .type "list", data := .seq #[] }).get? s.heap.objs.size = some { cls := .type "list", data := .seq #[] } := Heap.get?_push_size _ rfl
  refine ⟨⟨_, hS, rfl⟩, F.args_list_init_2 _ _, init_rev (A := A.in1) (s := { s with heap := s.heap.push { cls := .type "list", data := .seq #[] } }) hh (hit.at fun o e => Heap.get?_push_of_some _ e) (hl.push _) hne hn _ hS hSi hSl fun h' tk acc' c' hk hS' hacc => ?_⟩
  exact ⟨rfl, hQ h' tk acc' c' (fun b o hi e => hk b o (Nat.ne_of_lt (Heap.lt_size e)) hi (Heap.get?_push_of_some _ e)) hS' hacc⟩
end
/-- list(reversed(x)), x a list: a new list -/
def tListRev (K : PySem.W.Frag) (te : TE) : TE := fun σ H Q => te σ H fun v H1 => ∃ (a : Addr) (xs : List V), v = .ref a ∧ SqL K H1 a xs ∧ ∀ q, H1 q = none → Q (.ref q) (upd H1 q (.lst xs.reverse))
section
variable {X : Cx}
theorem pe_listRev {e : Expr} {te : TE} {p p2 pos pos2 : Pos} (hc : X.calm = true) (hg : Gl X "list") (hm : X.mg "list" = none) (hg2 : Gl X "reversed") (hm2 : X.mg "reversed" = none) (he : PE X e te)
    (hs : starEach [e] X.env = (false, eval e X.env) :: starEach [] X.env := by rfl)
    (hs2 : starEach [.Call (.Name "reversed" p2) [e] [] pos2] X.env = (false, eval (.Call (.Name "reversed" p2) [e] [] pos2) X.env) :: starEach [] X.env := by rfl) :
    PE X (.Call (.Name "list" p) [.Call (.Name "reversed" p2) [e] [] pos2] [] pos) (tListRev X.K te) := by
  refine ⟨fun pins s σ H Q I h => ?_⟩
  refine Call_ (ld_blt I hg hm boot_list (PyProof.Rows.callWith_type1 (args_cons (Call_ (ld_blt I hg2 hm2 PyProof.Rows.boot_reversed (PyProof.Rows.callWith_type1 (args_cons (thn (he.run pins s σ H _ I h) fun u s1 ⟨v, H1, I1, r1, q1⟩ => args_nil ?_) hs) hs rfl))) hs2) hs2 rfl))
  obtain ⟨a, xs, ev, hq, q⟩ := q1
  subst ev
  obtain rfl : u = Value.ref a := r1
  obtain ⟨its, rv, p', hz⟩ := I1.list hq
  refine call_reversed_list p'.isList (args_nil ?_)
  have k0 : ∀ b o, s1.heap.get? b = some o → (s1.heap.push (revObj a ((its.toArray.size : Int) - 1))).get? b = some o := fun b o e => Heap.get?_push_of_some _ e
  have I2 : Inv X pins σ H1 { s1 with heap := s1.heap.push (revObj a ((its.toArray.size : Int) - 1)) } := I1.kept (t' := s1.toks) k0
  obtain ⟨f0, f1, f2, f3, f4, f5⟩ := I1.fpOk (H' := H1) (b := s1.heap.objs.size) (Nat.le_refl _) (I1.hok.fresh (Nat.le_refl _))
  have hl := p'.isList
  obtain ⟨ol, hol, _⟩ := id hl
  have hne : a ≠ s1.heap.objs.size := Nat.ne_of_lt (Heap.lt_size hol)
  have hn : its.toArray.size ≤ sizeLine := by rw [List.size_toArray, ← rv.length]; exact hz
  refine call_list_rev (s := { s1 with heap := s1.heap.push (revObj a ((its.toArray.size : Int) - 1)) }) (I1.ok.hd hc) ⟨_, Heap.get?_push_size _ rfl, rfl, rfl⟩ (hl.push _) hne hn fun h' tk acc c' hk hS hi => ?_
  have hfp : ∀ b, b ∈ [s1.heap.objs.size] → FpOk X pins H1 b := fun b m => by
    rw [List.mem_singleton.mp m]
    exact I1.fpOk (Nat.le_refl _) (I1.hok.fresh (Nat.le_refl _))
  refine ⟨.ref _, upd H1 _ (.lst xs.reverse), I2.turnedNew (t' := tk) (ch := [s1.heap.objs.size]) (fun b o hb e => hk b o (fun z => hb (by rw [z]; exact List.mem_singleton.mpr rfl)) e) hfp (Nat.le_refl _) (show ObjOk X.prog X.w _ _ _ (.lst xs.reverse) from ⟨by rw [List.length_reverse]; exact hz, acc.toList, c', vals_rev rv hi, ?_⟩), rfl, q _ (I2.hok.fresh (Nat.le_refl _))⟩
  rw [Array.toArray_toList]
  exact hS
end
end RV
/-! A small evaluator of the Python that the laws are written in, over plain data. -/
namespace Ev
open PySem
/-- plain data; `loc n`: the n-th shared list that may change; `fn f`: the f-th def as a value -/
inductive D where
  | non | bl (b : Bool) | int (i : Int) | str (x : Str) | tup (xs : List D) | lst (xs : List D) | loc (n : Nat) | fn (f : Nat) | ro (xs : List D)
  deriving Inhabited
/-- what an expression comes to: data, or a list that only this place knows (fresh), or that only a name's slot knows -/
inductive W where
  | v (d : D) | l (fresh : Bool) (xs : List D)
  deriving Inhabited
abbrev Sto := List (List D)
inductive Slot where
  | no | val (d : D) | own (xs : List D) | err (cc : Nat) (pl : Option (Str × D))
  deriving Inhabited
abbrev En := List Slot
/-- ends of an evaluation -/
inductive Re (α : Type) where
  | ok (a : α) (S : Sto) | ex (c : Nat) (pl : List D) (S : Sto) | no
def Re.bind {α β : Type} (r : Re α) (f : α → Sto → Re β) : Re β := match r with
  | .ok a S => f a S
  | .ex c pl S => .ex c pl S
  | .no => .no
@[simp] theorem Re.bind_ok {α β : Type} {a : α} {S : Sto} {f : α → Sto → Re β} : (Re.ok a S).bind f = f a S := rfl
@[simp] theorem Re.bind_no {α β : Type} {f : α → Sto → Re β} : (Re.no : Re α).bind f = .no := rfl
@[simp] theorem Re.bind_ex {α β : Type} {c : Nat} {pl : List D} {S : Sto} {f : α → Sto → Re β} : (Re.ex c pl S : Re α).bind f = .ex c pl S := rfl
def Re.of {α : Type} (o : Option α) (S : Sto) : Re α := match o with
  | some a => .ok a S
  | none => .no
@[simp] theorem Re.of_some {α : Type} {a : α} {S : Sto} : Re.of (some a) S = .ok a S := rfl
@[simp] theorem Re.of_none {α : Type} {S : Sto} : Re.of (none : Option α) S = .no := rfl
inductive SR where
  | nx (η : En) (S : Sto) | rt (d : D) (S : Sto) | bk (η : En) (S : Sto) | ct (η : En) (S : Sto) | ex (c : Nat) (pl : List D) (S : Sto) | no
def SR.bind (r : SR) (f : En → Sto → SR) : SR := match r with
  | .nx η S => f η S
  | r => r
@[simp] theorem SR.bind_nx {η : En} {S : Sto} {f : En → Sto → SR} : (SR.nx η S).bind f = f η S := rfl
@[simp] theorem SR.bind_rt {d : D} {S : Sto} {f : En → Sto → SR} : (SR.rt d S).bind f = .rt d S := rfl
@[simp] theorem SR.bind_bk {η : En} {S : Sto} {f : En → Sto → SR} : (SR.bk η S).bind f = .bk η S := rfl
@[simp] theorem SR.bind_ct {η : En} {S : Sto} {f : En → Sto → SR} : (SR.ct η S).bind f = .ct η S := rfl
@[simp] theorem SR.bind_ex {c : Nat} {pl : List D} {S : Sto} {f : En → Sto → SR} : (SR.ex c pl S).bind f = .ex c pl S := rfl
@[simp] theorem SR.bind_no {f : En → Sto → SR} : SR.no.bind f = .no := rfl
/-- an expression's end at the head of a statement -/
def Re.st {α : Type} (r : Re α) (f : α → Sto → SR) : SR := match r with
  | .ok a S => f a S
  | .ex c pl S => .ex c pl S
  | .no => .no
@[simp] theorem Re.st_ok {α : Type} {a : α} {S : Sto} {f : α → Sto → SR} : (Re.ok a S).st f = f a S := rfl
@[simp] theorem Re.st_no {α : Type} {f : α → Sto → SR} : (Re.no : Re α).st f = .no := rfl
@[simp] theorem Re.st_ex {α : Type} {c : Nat} {pl : List D} {S : Sto} {f : α → Sto → SR} : (Re.ex c pl S : Re α).st f = .ex c pl S := rfl
/-! ### data -/
/-- the longest list, the greatest number of bits -/
abbrev LL : Nat := 1000000
abbrev BB : Nat := 100000000
abbrev bits (i : Int) : Nat := Builtin.Int.intBits i
/-- the data within as the library's data -/
def D.py : D → Option PyData
  | .non => some .none
  | .bl b => some (.bool b)
  | .int i => some (.int i)
  | .str x => some (.str x)
  | .tup xs => (pyL xs).map .tuple
  | .lst xs => (pyL xs).map .list
  | .loc _ => none
  | .fn _ => none
  | .ro _ => none
where pyL : List D → Option (List PyData)
  | [] => some []
  | x :: xs => match x.py with
    | some d => (match pyL xs with
      | some ds => some (d :: ds)
      | none => none)
    | none => none
/-- the items of a list that may be read -/
def W.seq (S : Sto) : W → Option (List D)
  | .v (.lst xs) => some xs
  | .v (.loc n) => S[n]?
  | .l _ xs => some xs
  | _ => none
/-- the items of a list or a tuple -/
def W.items (S : Sto) : W → Option (List D)
  | .v (.tup xs) => some xs
  | .v (.ro xs) => some xs
  | w => w.seq S
/-- kept data -/
def W.st : W → Option D
  | .v d => some d
  | .l true xs => some (.lst xs)
  | .l false _ => none
@[simp] theorem W.st_v {d : D} : (W.v d).st = some d := rfl
@[simp] theorem W.st_t {xs : List D} : (W.l true xs).st = some (.lst xs) := rfl
def W.py (S : Sto) : W → Option PyData
  | .v (.loc n) => (S[n]?).bind fun xs => (D.py.pyL xs).map .list
  | .v d => d.py
  | .l _ xs => (D.py.pyL xs).map .list
/-! ### operators -/
def addW (S : Sto) (a b : W) : Option W := match a, b with
  | .v (.int i), .v (.int j) => some (.v (.int (i + j)))
  | .v (.str x), .v (.str y) => if x.length + y.length ≤ LL then some (.v (.str (x ++ y))) else none
  | .v (.tup xs), .v (.tup ys) => if xs.length + ys.length ≤ LL then some (.v (.tup (xs ++ ys))) else none
  | a, b => match a.seq S with
    | some xs => (match b.seq S with
      | some ys => if xs.length + ys.length ≤ LL then some (.l true (xs ++ ys)) else none
      | none => none)
    | none => none
def mulW (S : Sto) (a b : W) : Option W := match a, b with
  | .v (.int i), .v (.int j) => if bits i + bits j ≤ BB then some (.v (.int (i * j))) else none
  | .v (.tup xs), .v (.int k) => if xs ≠ [] ∧ 2 ≤ k ∧ k ≤ 1000 ∧ xs.length ≤ 1000 then some (.v (.tup (List.replicate k.toNat xs).flatten)) else none
  | .l f xs, .v (.int k) => if 0 ≤ k ∧ k ≤ 1000 ∧ xs.length ≤ 1000 then some (.l true (List.replicate k.toNat xs).flatten) else none
  | .v (.lst xs), .v (.int k) => if 0 ≤ k ∧ k ≤ 1000 ∧ xs.length ≤ 1000 then some (.l true (List.replicate k.toNat xs).flatten) else none
  | _, _ => none
/-- int operators but + and * -/
def intOp (op : Operator) (i j : Int) : Option Int := match op with
  | .Sub => some (i - j)
  | .FloorDiv => if 0 < j ∧ (bits j ≤ 9000 ∨ bits i ≤ bits j + 4000) then some (i / j) else none
  | .Mod => if 0 < j then some (i % j) else none
  | .Pow => if 0 ≤ j ∧ j ≤ 1000000 ∧ i.natAbs < 2 ^ 64 then some (i ^ j.toNat) else none
  | .LShift => if 0 ≤ j ∧ (bits i : Int) + j ≤ BB then some (i * 2 ^ j.toNat) else none
  | .RShift => if 0 ≤ j then some (i / 2 ^ j.toNat) else none
  | .BitAnd => some (Builtin.bitAnd i j)
  | .BitOr => some (Builtin.bitOr i j)
  | .BitXor => some (Builtin.bitXor i j)
  | _ => none
def iop (op : Operator) (a b : W) : Option W := match a, b with
  | .v (.int i), .v (.int j) => (match intOp op i j with
    | some k => some (.v (.int k))
    | none => none)
  | _, _ => none
def opW (op : Operator) (S : Sto) (a b : W) : Option W := match op with
  | .Add => addW S a b
  | .Mult => mulW S a b
  | _ => iop op a b
def b2i (b : Bool) : Int := if b then 1 else 0
def ordI (op : CmpOp) (i j : Int) : Option Bool := match op with
  | .Lt => some (decide (i < j))
  | .LtE => some (decide (i ≤ j))
  | .Gt => some (decide (j < i))
  | .GtE => some (decide (j ≤ i))
  | _ => none
def eqW (S : Sto) (a b : W) : Option Bool := match a, b with
  | .v (.int i), .v (.int j) => some (decide (i = j))
  | .v (.str x), .v (.str y) => some (decide (x = y))
  | .v (.bl x), .v (.bl y) => some (x == y)
  | .v .non, .v .non => some true
  | a, b => match a.py S with
    | some x => (match b.py S with
      | some y => if SeqAt.shaped x = true ∧ SeqAt.shaped y = true then some (PyData.eqv x y) else none
      | none => none)
    | none => none
def isNon : W → Bool
  | .v .non => true
  | _ => false
def isBl (y : Bool) : W → Bool
  | .v (.bl x) => x == y
  | _ => false
def isW (a b : W) : Option Bool := match b with
  | .v .non => some (isNon a)
  | .v (.bl y) => some (isBl y a)
  | _ => none
/-- flat data for in -/
def D.flat : D → Option L2.V
  | .non => some .non
  | .bl b => some (.bl b)
  | .int i => some (.int i)
  | .str x => some (.str x)
  | _ => none
def flats : List D → Option (List L2.V)
  | [] => some []
  | x :: xs => match x.flat with
    | some y => (match flats xs with
      | some ys => some (y :: ys)
      | none => none)
    | none => none
def inW (S : Sto) (a b : W) : Option Bool := match a with
  | .v d => (match d.flat with
    | some x => if L2.flatV x = true then (match b.items S with
      | some ds => (match flats ds with
        | some xs => if xs.all L2.flatV = true then some (L2.inV x xs) else none
        | none => none)
      | none => none) else none
    | none => none)
  | _ => none
def cmpW (op : CmpOp) (S : Sto) (a b : W) : Option Bool := match op with
  | .Eq => eqW S a b
  | .NotEq => (eqW S a b).map (!·)
  | .Is => isW a b
  | .IsNot => (isW a b).map (!·)
  | .In => inW S a b
  | .NotIn => (inW S a b).map (!·)
  | op => match a, b with
    | .v (.int i), .v (.int j) => ordI op i j
    | _, _ => none
def ixD (xs : List D) (i : Int) : Option D := L2.atI xs i
def ixW (S : Sto) (a i : W) : Option W := match i with
  | .v (.int k) => (match a.items S with
    | some xs => (match ixD xs k with
      | some d => some (.v d)
      | none => none)
    | none => (match a with
      | .v (.str x) => if x.length ≤ LL then (match L2.atI x.cps.toList k with
        | some c => some (.v (.str ⟨#[c]⟩))
        | none => none) else none
      | _ => none))
  | _ => none
def cutD (xs : List D) (lo hi : Option Int) : List D := (xs.drop (HT.sIx xs.length 0 lo)).take (HT.sIx xs.length xs.length hi - HT.sIx xs.length 0 lo)
def slW (S : Sto) (a : W) (lo hi : Option Int) : Option W := match a with
  | .v (.tup xs) => some (.v (.tup (cutD xs lo hi)))
  | .v (.ro xs) => some (.l true (cutD xs lo hi))
  | a => match a.seq S with
    | some xs => some (.l true (cutD xs lo hi))
    | none => none
inductive Ty where
  | int | bool | str | tuple | list
  deriving DecidableEq
def isiW (t : Ty) (a : W) : Option Bool := match a with
  | .v .non => some false
  | .v (.bl _) => some (match t with | .int => true | .bool => true | _ => false)
  | .v (.int _) => some (match t with | .int => true | _ => false)
  | .v (.str _) => some (match t with | .str => true | _ => false)
  | .v (.tup _) => some (match t with | .tuple => true | _ => false)
  | .v (.lst _) => some (match t with | .list => true | _ => false)
  | .l _ _ => some (match t with | .list => true | _ => false)
  | _ => none
inductive B1 where
  | len | abs | int | str | tuple | list | rev | sum | min | max | all | any
  deriving DecidableEq
def intsD : List D → Option (List Int)
  | [] => some []
  | .int i :: xs => match intsD xs with
    | some is => some (i :: is)
    | none => none
  | _ :: _ => none
def blsD : List D → Option (List Bool)
  | [] => some []
  | .bl i :: xs => match blsD xs with
    | some is => some (i :: is)
    | none => none
  | _ :: _ => none
def minI : List Int → Int
  | [] => 0
  | x :: xs => xs.foldl (fun a b => if b < a then b else a) x
def maxI : List Int → Int
  | [] => 0
  | x :: xs => xs.foldl (fun a b => if a < b then b else a) x
def lenW (S : Sto) (a : W) : Option W := match a.items S with
  | some xs => some (.v (.int xs.length))
  | none => (match a with
    | .v (.str x) => if x.length ≤ LL then some (.v (.int x.length)) else none
    | _ => none)
def onInts (S : Sto) (a : W) (f : List Int → Option W) : Option W := match a.seq S with
  | some xs => (match intsD xs with
    | some is => f is
    | none => none)
  | none => none
def onBls (S : Sto) (a : W) (f : List Bool → W) : Option W := match a.seq S with
  | some xs => (match blsD xs with
    | some is => some (f is)
    | none => none)
  | none => none
def b1W (b : B1) (S : Sto) (a : W) : Option W := match b with
  | .len => lenW S a
  | .abs => (match a with
    | .v (.int i) => some (.v (.int (if i < 0 then -i else i)))
    | _ => none)
  | .int => (match a with
    | .v (.int i) => some (.v (.int i))
    | .v (.bl i) => some (.v (.int (if i then 1 else 0)))
    | _ => none)
  | .str => (match a with
    | .v (.int i) => if i.natAbs.log2 < 1920 then some (.v (.str (toString i))) else none
    | _ => none)
  | .tuple => (match a with
    | .v (.tup xs) => some (.v (.tup xs))
    | a => (match a.seq S with
      | some xs => some (.v (.tup xs))
      | none => none))
  | .list => (match a.items S with
    | some xs => some (.l true xs)
    | none => none)
  | .rev => (match a.seq S with
    | some xs => some (.l true xs.reverse)
    | none => none)
  | .sum => onInts S a fun is => some (.v (.int is.sum))
  | .min => onInts S a fun is => if is = [] then none else some (.v (.int (minI is)))
  | .max => onInts S a fun is => if is = [] then none else some (.v (.int (maxI is)))
  | .all => onBls S a fun bs => .v (.bl (bs.all id))
  | .any => onBls S a fun bs => .v (.bl (bs.any id))
inductive B2 where
  | min | max
  deriving DecidableEq
def b2W (b : B2) (x y : W) : Option W := match x, y with
  | .v (.int i), .v (.int j) => some (.v (.int (match b with
    | .max => if j > i then j else i
    | .min => if j < i then j else i)))
  | _, _ => none
/-! ### the language -/
inductive Tg where
  | var (i : Nat) | tup (ts : List Tg)
inductive E where
  | var (i : Nat) | cst (d : D) | gint (x : Nat) (i : Int) | gfn (f : Nat)
  | tup (es : List E) | lst (es : List E)
  | bin (op : Operator) (a b : E) | neg (a : E) | cmp (op : CmpOp) (a b : E) | chain (op op2 : CmpOp) (a b c : E)
  | and (a b : E) | or (a b : E) | not (a : E) | ife (c a b : E)
  | ix (a i : E) | sl (a : E) (lo hi : Option E)
  | call (f : Nat) (es : List E) | callK (f : Nat) (np : Nat) (perm : List Nat) (es : List E)
  | b1 (b : B1) (a : E) | b2 (b : B2) (a b : E) | isi (a : E) (t : Ty) | bitlen (a : E)
  | lc (elt : E) (tg : Tg) (it : E) (c : Option E) (vs : List Nat)
  | rng (lo : Option E) (hi : E) | enum (a : E) | zip (es : List E) | rvd (a : E)
  | sq (a : E) | pop (o : E) | share (e : E)
  | isE (i : Nat) (cs q : List Nat) (one : Bool) | fldE (i : Nat) (f : Str)
inductive S where
  | asg (tg : Tg) (e : E) | own (i : Nat) (e : E) | frz (i : Nat)
  | ret (e : E) | retN | ife (c : E) (a b : List S) | for (tg : Tg) (it : E) (b : List S) | whl (c : E) (b : List S)
  | brk | cnt | pass | exp (e : E)
  | par2 (i : Nat) (oi : Bool) (a : E) (j : Nat) (oj : Bool) (b : E)
  | par3 (i : Nat) (oi : Bool) (a : E) (j : Nat) (oj : Bool) (b : E) (l : Nat) (ol : Bool) (d : E)
  | app (i : Nat) (e : E) | ext (i : Nat) (e : E) | setO (i : Nat) (ix e : E) | setL (o ix e : E) | popO (i : Nat)
  | raise (k : Nat) (f : Option Str) (es : List E) | try (b : List S) (x : Nat) (cs : List Nat) (i : Nat) (s : List S)
def En.get (η : En) (i : Nat) : Slot := η.getD i .no
def En.put (η : En) (i : Nat) (s : Slot) : En := η.set i s
mutual
def asgT : Tg → D → En → Option En
  | .var i, d, η => if i < η.length then some (η.put i (.val d)) else none
  | .tup ts, .tup ds, η => asgL ts ds η
  | .tup ts, .lst ds, η => none
  | .tup _, _, _ => none
def asgL : List Tg → List D → En → Option En
  | [], [], η => some η
  | t :: ts, d :: ds, η => match asgT t d η with
    | some η' => asgL ts ds η'
    | none => none
  | _, _, _ => none
end
def wipeE (η : En) : List Nat → En
  | [] => η
  | v :: vs => (wipeE η vs).put v .no
abbrev Call := Nat → List D → Sto → Re D
/-- no exception leaves -/
def Re.calm {α : Type} (r : Re α) : Re α := match r with
  | .ex _ _ _ => .no
  | r => r
@[simp] theorem Re.calm_ok {α : Type} {a : α} {S : Sto} : (Re.ok a S).calm = .ok a S := rfl
@[simp] theorem Re.calm_no {α : Type} : (Re.no : Re α).calm = .no := rfl
@[simp] theorem Re.calm_ex {α : Type} {c : Nat} {pl : List D} {S : Sto} : (Re.ex c pl S : Re α).calm = .no := rfl
/-- a comprehension's loop -/
def lcL (tg : Tg) (η : En) (f : En → Sto → Re (Option D)) : List D → Sto → Re (List D)
  | [], S => .ok [] S
  | x :: xs, S => match asgT tg x η with
    | none => .no
    | some η1 => (f η1 S).calm.bind fun o S1 => (lcL tg η f xs S1).bind fun ys S2 => match o with
      | some y => .ok (y :: ys) S2
      | none => .ok ys S2
def rngL (lo hi : Int) : List D := (List.range (hi - lo).toNat).map fun k => .int (lo + (k : Nat))
def enumL (xs : List D) : List D := xs.zipIdx.map fun p => .tup [.int (p.2 : Nat), p.1]
def zipL (xs ys : List D) : List D := (xs.zip ys).map fun p => .tup [p.1, p.2]
def zip3L (xs ys zs : List D) : List D := (xs.zip (ys.zip zs)).map fun p => .tup [p.1, p.2.1, p.2.2]
def small62 (i : Int) : Bool := decide (-(2 ^ 62) ≤ i ∧ i < 2 ^ 62)
def W.i? : W → Option Int
  | .v (.int i) => some i
  | _ => none
def W.b? : W → Option Bool
  | .v (.bl b) => some b
  | _ => none
@[simp] theorem W.i?_int {i : Int} : (W.v (.int i)).i? = some i := rfl
@[simp] theorem W.b?_bl {b : Bool} : (W.v (.bl b)).b? = some b := rfl
def permD (perm : List Nat) (ds : List D) : Option (List D) := perm.mapM fun j => ds[j]?
section
variable (c : Call)
mutual
def evE : E → En → Sto → Re W
  | .var i, η, T => match η.get i with
    | .val d => .ok (.v d) T
    | .own xs => .ok (.l false xs) T
    | .err _ _ => .no
    | .no => .no
  | .cst d, _, T => .ok (.v d) T
  | .gint _ i, _, T => .ok (.v (.int i)) T
  | .gfn f, _, T => .ok (.v (.fn f)) T
  | .tup es, η, T => (evDs es η T).bind fun ds T => .ok (.v (.tup ds)) T
  | .lst es, η, T => (evDs es η T).bind fun ds T => .ok (.l true ds) T
  | .bin op a b, η, T => (evE a η T).bind fun x T => (evE b η T).bind fun y T => Re.of (opW op T x y) T
  | .neg a, η, T => (evE a η T).bind fun x T => match x.i? with
    | some i => .ok (.v (.int (-i))) T
    | none => .no
  | .cmp op a b, η, T => (evE a η T).bind fun x T => (evE b η T).bind fun y T => (Re.of (cmpW op T x y) T).bind fun k T => .ok (.v (.bl k)) T
  | .chain op op2 a b d, η, T => (evE a η T).bind fun x T => (evE b η T).bind fun y T => (Re.of (cmpW op T x y) T).bind fun k T =>
    if k then (evE d η T).bind fun z T => (Re.of (cmpW op2 T y z) T).bind fun k T => .ok (.v (.bl k)) T else .ok (.v (.bl false)) T
  | .and a b, η, T => (evE a η T).bind fun x T => match x.b? with
    | some k => if k then evE b η T else .ok (.v (.bl false)) T
    | none => .no
  | .or a b, η, T => (evE a η T).bind fun x T => match x.b? with
    | some k => if k then .ok (.v (.bl true)) T else evE b η T
    | none => .no
  | .not a, η, T => (evE a η T).bind fun x T => match x.b? with
    | some k => .ok (.v (.bl (!k))) T
    | none => .no
  | .ife t a b, η, T => (evE t η T).bind fun x T => match x.b? with
    | some k => if k then evE a η T else evE b η T
    | none => .no
  | .ix a i, η, T => (evE a η T).bind fun x T => (evE i η T).bind fun y T => Re.of (ixW T x y) T
  | .sl a lo hi, η, T => (evE a η T).bind fun x T => (evO lo η T).bind fun l T => (evO hi η T).bind fun h T => Re.of (slW T x l h) T
  | .call f es, η, T => (evDs es η T).bind fun ds T => (c f ds T).bind fun d T => .ok (.v d) T
  | .callK f _ perm es, η, T => (evDs es η T).bind fun ds T => match permD perm ds with
    | some ds => (c f ds T).bind fun d T => .ok (.v d) T
    | none => .no
  | .b1 b a, η, T => (evE a η T).bind fun x T => Re.of (b1W b T x) T
  | .b2 b a1 a2, η, T => (evE a1 η T).bind fun x T => (evE a2 η T).bind fun y T => Re.of (b2W b x y) T
  | .isi a t, η, T => (evE a η T).bind fun x T => (Re.of (isiW t x) T).bind fun k T => .ok (.v (.bl k)) T
  | .bitlen a, η, T => (evE a η T).bind fun x T => match x.i? with
    | some i => .ok (.v (.int (bits i : Nat))) T
    | none => .no
  | .lc elt tg it cn vs, η, T => (evI it η T).bind fun xs T => if LL < xs.length then .no else (lcL tg (wipeE η vs) (fun η T => match cn with
    | none => (evE elt η T).bind fun w T => match w.st with
      | some d => .ok (some d) T
      | none => .no
    | some cn => (evE cn η T).bind fun x T => match x.b? with
      | some k => if k then (evE elt η T).bind fun w T => (match w.st with
        | some d => .ok (some d) T
        | none => .no) else .ok none T
      | none => .no) xs T).bind fun ys T => .ok (.l true ys) T
  | .pop o, η, T => (evE o η T).bind fun x T => match x with
    | .v (.loc n) => (match T[n]? with
      | some xs => (match xs.getLast? with
        | some d => .ok (.v d) (T.set n xs.dropLast)
        | none => .no)
      | none => .no)
    | _ => .no
  | .share e, η, T => (evE e η T).bind fun x T => match x with
    | .l true xs => .ok (.v (.loc T.length)) (T ++ [xs])
    | _ => .no
  | .isE i cs _ _, η, T => match η.get i with
    | .err cc _ => .ok (.v (.bl (cs.contains cc))) T
    | _ => .no
  | .fldE i f, η, T => match η.get i with
    | .err _ (some (f', d)) => if f' = f then .ok (.v d) T else .no
    | _ => .no
  | .rng _ _, _, _ => .no
  | .enum _, _, _ => .no
  | .zip _, _, _ => .no
  | .rvd _, _, _ => .no
  | .sq _, _, _ => .no
def evO : Option E → En → Sto → Re (Option Int)
  | none, _, T => .ok none T
  | some e, η, T => (evE e η T).bind fun x T => match x.i? with
    | some i => .ok (some i) T
    | none => .no
def evDs : List E → En → Sto → Re (List D)
  | [], _, T => .ok [] T
  | e :: es, η, T => (evE e η T).bind fun w T => match w.st with
    | some d => (evDs es η T).bind fun ds T => .ok (d :: ds) T
    | none => .no
def evI : E → En → Sto → Re (List D)
  | .rng lo hi, η, T => (match lo with
    | none => Re.ok (α := Int) 0 T
    | some e => (evE e η T).bind fun x T => Re.of x.i? T).bind fun l T => (evE hi η T).bind fun y T => match y.i? with
      | some h => if small62 l = true ∧ small62 h = true then .ok (rngL l h) T else .no
      | none => .no
  | .enum a, η, T => (evE a η T).bind fun x T => match x.st with
    | some (.lst xs) => .ok (enumL xs) T
    | _ => .no
  | .zip es, η, T => (evDs es η T).bind fun ds T => match ds with
    | [.lst xs, .lst ys] => .ok (zipL xs ys) T
    | [.tup xs, .tup ys] => .ok (zipL xs ys) T
    | _ => .no
  | .rvd a, η, T => (evE a η T).bind fun x T => match x.st with
    | some (.lst xs) => .ok xs.reverse T
    | some (.tup xs) => .ok xs.reverse T
    | _ => .no
  | .sq e, η, T => (evE e η T).bind fun x T => match x.st with
    | some (.lst xs) => .ok xs T
    | some (.tup xs) => .ok xs T
    | _ => .no
  | _, _, _ => .no
end
end
/-! ### statements -/
def forL (tg : Tg) (f : En → Sto → SR) : List D → En → Sto → SR
  | [], η, T => .nx η T
  | x :: xs, η, T => match asgT tg x η with
    | none => .no
    | some η1 => match f η1 T with
      | .nx η2 T2 => forL tg f xs η2 T2
      | .ct η2 T2 => forL tg f xs η2 T2
      | .bk η2 T2 => .nx η2 T2
      | r => r
def whlL (t : En → Sto → Re W) (f : En → Sto → SR) : Nat → En → Sto → SR
  | 0, _, _ => .no
  | n + 1, η, T => (t η T).st fun x T1 => match x.b? with
    | none => .no
    | some false => .nx η T1
    | some true => match f η T1 with
      | .nx η2 T2 => whlL t f n η2 T2
      | .ct η2 T2 => whlL t f n η2 T2
      | .bk η2 T2 => .nx η2 T2
      | r => r
/-- how often a while may turn -/
abbrev WN : Nat := 1000000
def En.own? (η : En) (i : Nat) : Option (List D) := match η.get i with
  | .own xs => some xs
  | _ => none
def stL (T : Sto) : W → Option (Nat × List D)
  | .v (.loc n) => (match T[n]? with
    | some xs => some (n, xs)
    | none => none)
  | _ => none
/-- what a slot takes: a list of its own, or kept data -/
def slX (o : Bool) (w : W) : Option Slot := match o with
  | true => (match w with
    | .l true xs => some (.own xs)
    | _ => none)
  | false => (match w.st with
    | some d => some (.val d)
    | none => none)
/-- classes of errors: the name, a built-in one, the field that one keeps, the classes that it is (by number) -/
structure Cl where
  name : Str
  bt : Option String
  ini : Bool
  fld : Option Str
  sup : List Nat
/-- what a checker knows: the names of built-ins that no def hides, the classes, the error that a suite holds -/
structure Bn where
  l : List Str
  cl : List Cl
  er : Option Str
/-- the locals that an except suite may read: its error alone -/
def En.errs (η : En) (i cc : Nat) (pl : Option (Str × D)) : En := En.put (List.replicate η.length Slot.no) i (.err cc pl)
/-- what an error keeps -/
def mkPl : Option Str → List D → Option (List D)
  | none, [] => some []
  | some f, [x] => some [.str f, x]
  | _, _ => none
def errPl : List D → Option (Option (Str × D))
  | [] => some none
  | [.str f, x] => some (some (f, x))
  | _ => none
/-- an except suite's end -/
def suiteEnd (n : Nat) : SR → SR
  | .rt d T => .rt d T
  | .nx η T => if η.length = n then .nx (List.replicate n .no) T else .no
  | _ => .no
section
variable (c : Call)
mutual
def exS : S → En → Sto → SR
  | .asg tg e, η, T => (evE c e η T).st fun w T => match w.st with
    | some d => (match asgT tg d η with
      | some η => .nx η T
      | none => .no)
    | none => .no
  | .own i e, η, T => (evE c e η T).st fun w T => match w with
    | .l true xs => if i < η.length then .nx (η.put i (.own xs)) T else .no
    | _ => .no
  | .frz i, η, T => match η.own? i with
    | some xs => .nx (η.put i (.val (.lst xs))) T
    | none => .no
  | .ret e, η, T => (evE c e η T).st fun w T => match w.st with
    | some d => .rt d T
    | none => .no
  | .retN, _, T => .rt .non T
  | .ife t a b, η, T => (evE c t η T).st fun x T => match x.b? with
    | some k => if k then exB a η T else exB b η T
    | none => .no
  | .for tg it b, η, T => (evI c it η T).st fun xs T => forL tg (fun η T => exB b η T) xs η T
  | .whl t b, η, T => whlL (fun η T => evE c t η T) (fun η T => exB b η T) WN η T
  | .brk, η, T => .bk η T
  | .cnt, η, T => .ct η T
  | .pass, η, T => .nx η T
  | .exp e, η, T => (evE c e η T).st fun _ T => .nx η T
  | .par2 i oi a j oj b, η, T => (evE c a η T).st fun w T => match slX oi w with
    | some s => (evE c b η T).st fun w2 T => (match slX oj w2 with
      | some s2 => if i < η.length ∧ j < η.length then .nx ((η.put i s).put j s2) T else .no
      | none => .no)
    | none => .no
  | .par3 i oi a j oj b l ol d, η, T => (evE c a η T).st fun w T => match slX oi w with
    | some s => (evE c b η T).st fun w2 T => (match slX oj w2 with
      | some s2 => (evE c d η T).st fun w3 T => (match slX ol w3 with
        | some s3 => if i < η.length ∧ j < η.length ∧ l < η.length then .nx (((η.put i s).put j s2).put l s3) T else .no
        | none => .no)
      | none => .no)
    | none => .no
  | .app i e, η, T => match η.own? i with
    | some xs => (evE c e η T).st fun w T => (match w.st with
      | some d => if xs.length < LL then .nx (η.put i (.own (xs ++ [d]))) T else .no
      | none => .no)
    | none => .no
  | .ext i e, η, T => match η.own? i with
    | some xs => (evE c e η T).st fun w T => (match w.seq T with
      | some ys => if xs.length + ys.length ≤ LL then .nx (η.put i (.own (xs ++ ys))) T else .no
      | none => .no)
    | none => .no
  | .setO i ix e, η, T => match η.own? i with
    | some xs => (evE c e η T).st fun w T => (match w.st with
      | some d => (evE c ix η T).st fun k T => (match k.i? with
        | some k => (match L2.ixN xs.length k with
          | some j => .nx (η.put i (.own (xs.set j d))) T
          | none => .no)
        | none => .no)
      | none => .no)
    | none => .no
  | .setL o ix e, η, T => (evE c e η T).st fun w T => match w.st with
    | some d => (evE c o η T).st fun x T => (evE c ix η T).st fun k T => (match k.i? with
      | some k => (match stL T x with
        | some (n, xs) => (match L2.ixN xs.length k with
          | some j => .nx η (T.set n (xs.set j d))
          | none => .no)
        | none => .no)
      | none => .no)
    | none => .no
  | .popO i, η, T => match η.own? i with
    | some xs => if xs = [] then .no else .nx (η.put i (.own xs.dropLast)) T
    | none => .no
  | .raise k f es, η, T => (evDs c es η T).st fun ds T => match mkPl f ds with
    | some pl => .ex k pl T
    | none => .no
  | .try b _ cs i s, η, T => match exB b η T with
    | .ex cc pl T1 => if cs.contains cc then (match errPl pl with
      | some p => suiteEnd η.length (exB s (η.errs i cc p) T1)
      | none => .no) else .ex cc pl T1
    | r => r
def exB : List S → En → Sto → SR
  | [], η, T => .nx η T
  | s :: ss, η, T => (exS s η T).bind fun η T => exB ss η T
end
end
/-- a def: parameters, slots, body -/
structure Fd where
  name : Str
  ps : List Str
  N : List Str
  body : List S
def En.start (n : Nat) (ds : List D) : En := ds.map .val ++ List.replicate (n - ds.length) .no
def ended : SR → Re D
  | .rt d T => .ok d T
  | .nx _ T => .ok .non T
  | .ex c pl T => .ex c pl T
  | _ => .no
def runF (c : Call) (f : Fd) (ds : List D) (T : Sto) : Re D :=
  if ds.length = f.ps.length then ended (exB c f.body (.start f.N.length ds) T) else .no
/-- a program: its defs by number -/
def run (P : Nat → Option Fd) : Nat → Call
  | 0, _, _, _ => .no
  | n + 1, f, ds, T => match P f with
    | some fd => runF (run P n) fd ds T
    | none => .no
end Ev
namespace Ev
open PySem PySem.Spec PyProof.Rows L2
/-! ### data and the abstract heap -/
/-- a list that does not change -/
def SqLf (K : PySem.W.Frag) (H : Hp) (a : Addr) (xs : List V) : Prop := (∃ o, H a = some (.frz o (.lst xs))) ∨ ∃ (o : Obj) (its : Array Value) (n : Nat), K.lookup a = some o ∧ o.cls = .type "list" ∧ o.dict = none ∧ o.data = .seq its n ∧ its.size ≤ sizeLine ∧ Vals xs its.toList
theorem SqLf.sq {K : PySem.W.Frag} {H : Hp} {a : Addr} {xs : List V} (h : SqLf K H a xs) : SqL K H a xs := by
  rcases h with ⟨o, h⟩ | h
  · exact .inl (.inr ⟨o, h⟩)
  · exact .inr h
mutual
/-- the value v is the data d; ρ: where the shared lists stand; G: where the defs stand -/
inductive Rep (K : PySem.W.Frag) (G : Nat → Addr) (H : Hp) (ρ : List Addr) : V → D → Prop where
  | non : Rep K G H ρ .non .non
  | bl (b : Bool) : Rep K G H ρ (.bl b) (.bl b)
  | int (i : Int) : Rep K G H ρ (.int i) (.int i)
  | str (x : Str) : Rep K G H ρ (.str x) (.str x)
  | tup {a : Addr} {vs : List V} {ds : List D} : SqT K H a vs → Reps K G H ρ vs ds → Rep K G H ρ (.ref a) (.tup ds)
  | lst {a : Addr} {o : Obj} {vs : List V} {ds : List D} : H a = some (.frz o (.lst vs)) → Reps K G H ρ vs ds → Rep K G H ρ (.ref a) (.lst ds)
  | loc {a : Addr} {n : Nat} : ρ[n]? = some a → Rep K G H ρ (.ref a) (.loc n)
  | fn (f : Nat) : f < 4096 → Rep K G H ρ (.ref (G f)) (.fn f)
  | ro {a : Addr} {vs : List V} {ds : List D} : SqLf K H a vs → Reps K G H ρ vs ds → Rep K G H ρ (.ref a) (.ro ds)
inductive Reps (K : PySem.W.Frag) (G : Nat → Addr) (H : Hp) (ρ : List Addr) : List V → List D → Prop where
  | nil : Reps K G H ρ [] []
  | cons {v : V} {vs : List V} {d : D} {ds : List D} : Rep K G H ρ v d → Reps K G H ρ vs ds → Reps K G H ρ (v :: vs) (d :: ds)
end
section
variable {K : PySem.W.Frag} {G : Nat → Addr} {H H' H0 : Hp} {ρ ρ' ρ0 : List Addr}
theorem Reps.len : ∀ {vs : List V} {ds : List D}, Reps K G H ρ vs ds → vs.length = ds.length
  | _, _, .nil => rfl
  | _, _, .cons _ t => congrArg Nat.succ t.len
theorem Reps.app : ∀ {vs us : List V} {ds es : List D}, Reps K G H ρ vs ds → Reps K G H ρ us es → Reps K G H ρ (vs ++ us) (ds ++ es)
  | _, _, _, _, .nil, t => t
  | _, _, _, _, .cons r t, u => .cons r (t.app u)
theorem Reps.at : ∀ {vs : List V} {ds : List D} {i : Nat} {d : D}, Reps K G H ρ vs ds → ds[i]? = some d → ∃ v, vs[i]? = some v ∧ Rep K G H ρ v d
  | _, _, i, d, .nil, h => by simp at h
  | _, _, 0, d, .cons r _, h => by
    simp at h
    subst h
    exact ⟨_, rfl, r⟩
  | _, _, i + 1, d, .cons _ t, h => by
    obtain ⟨v, e, r⟩ := t.at (i := i) (by simpa using h)
    exact ⟨v, by simpa using e, r⟩
theorem Reps.at' : ∀ {vs : List V} {ds : List D} {i : Nat} {v : V}, Reps K G H ρ vs ds → vs[i]? = some v → ∃ d, ds[i]? = some d ∧ Rep K G H ρ v d
  | _, _, i, d, .nil, h => by simp at h
  | _, _, 0, d, .cons r _, h => by
    simp at h
    subst h
    exact ⟨_, rfl, r⟩
  | _, _, i + 1, d, .cons _ t, h => by
    obtain ⟨v, e, r⟩ := t.at' (i := i) (by simpa using h)
    exact ⟨v, by simpa using e, r⟩
theorem Reps.tk : ∀ {vs : List V} {ds : List D} (n : Nat), Reps K G H ρ vs ds → Reps K G H ρ (vs.take n) (ds.take n)
  | _, _, 0, _ => by
    rw [List.take_zero, List.take_zero]
    exact .nil
  | _, _, _ + 1, .nil => .nil
  | _, _, n + 1, .cons r t => .cons r (t.tk n)
theorem Reps.dp : ∀ {vs : List V} {ds : List D} (n : Nat), Reps K G H ρ vs ds → Reps K G H ρ (vs.drop n) (ds.drop n)
  | _, _, 0, t => t
  | _, _, _ + 1, .nil => .nil
  | _, _, n + 1, .cons _ t => t.dp n
theorem Reps.st : ∀ {vs : List V} {ds : List D} (n : Nat) {v : V} {d : D}, Reps K G H ρ vs ds → Rep K G H ρ v d → Reps K G H ρ (vs.set n v) (ds.set n d)
  | _, _, _, _, _, .nil, _ => .nil
  | _, _, 0, _, _, .cons _ t, r => .cons r t
  | _, _, n + 1, _, _, .cons q t, r => .cons q (t.st n r)
theorem Reps.rv {vs : List V} {ds : List D} (t : Reps K G H ρ vs ds) : Reps K G H ρ vs.reverse ds.reverse := by
  induction vs generalizing ds with
  | nil => cases t; exact .nil
  | cons v vs ih =>
    cases t with
    | cons r t =>
      rw [List.reverse_cons, List.reverse_cons]
      exact (ih t).app (.cons r .nil)
theorem Reps.reps {vs : List V} {ds : List D} (t : Reps K G H ρ vs ds) (n : Nat) : Reps K G H ρ (List.replicate n vs).flatten (List.replicate n ds).flatten := by
  induction n with
  | zero => exact .nil
  | succ n ih =>
    rw [List.replicate_succ, List.replicate_succ, List.flatten_cons, List.flatten_cons]
    exact t.app ih
theorem Reps.dl {vs : List V} {ds : List D} (t : Reps K G H ρ vs ds) : Reps K G H ρ vs.dropLast ds.dropLast := by
  rw [List.dropLast_eq_take, List.dropLast_eq_take, t.len]
  exact t.tk _
/-- what was tracked stays, but for the shared lists -/
def Keep (H H' : Hp) (ρ : List Addr) : Prop := ∀ a o, H a = some o → a ∉ ρ → H' a = some o
/-- at the shared lists' places stand lists -/
def Lists (H : Hp) (ρ : List Addr) : Prop := ∀ a, a ∈ ρ → ∃ vs, H a = some (.lst vs)
/-- all but lists that may change stays -/
def Firm (H H' : Hp) : Prop := ∀ a o, H a = some o → (∀ vs, o ≠ .lst vs) → H' a = some o
theorem Firm.trans {H1 H2 : Hp} (f : Firm H H1) (g : Firm H1 H2) : Firm H H2 := fun a o e n => g a o (f a o e n) n
theorem Firm.refl : Firm H H := fun _ _ e _ => e
theorem Keep.firm {M : List Addr} (l : Lists H M) (k : Keep H H' M) : Firm H H' := fun a o e n => k a o e fun m => by
  obtain ⟨vs, q⟩ := l a m
  rw [e] at q
  exact n vs (Option.some.inj q)
mutual
theorem Rep.firm {v : V} {d : D} (f : Firm H H') (p : ∀ (n : Nat) (a : Addr), ρ[n]? = some a → ρ'[n]? = some a) (r : Rep K G H ρ v d) : Rep K G H' ρ' v d := by
  cases r with
  | non => exact .non
  | bl b => exact .bl b
  | int i => exact .int i
  | str x => exact .str x
  | @tup a vs ds h t =>
    refine .tup ?_ (Reps.firm f p t)
    rcases h with (h | ⟨o, h⟩) | h
    · exact .inl (.inl (f _ _ h fun _ z => nomatch z))
    · exact .inl (.inr ⟨o, f _ _ h fun _ z => nomatch z⟩)
    · exact .inr h
  | @lst a o vs ds h t => exact .lst (f _ _ h fun _ z => nomatch z) (Reps.firm f p t)
  | loc h => exact .loc (p _ _ h)
  | fn f h => exact .fn f h
  | @ro a vs ds h t =>
    refine .ro ?_ (Reps.firm f p t)
    rcases h with ⟨o, h⟩ | h
    · exact .inl ⟨o, f _ _ h fun _ z => nomatch z⟩
    · exact .inr h
theorem Reps.firm {vs : List V} {ds : List D} (f : Firm H H') (p : ∀ (n : Nat) (a : Addr), ρ[n]? = some a → ρ'[n]? = some a) (r : Reps K G H ρ vs ds) : Reps K G H' ρ' vs ds := by
  cases r with
  | nil => exact .nil
  | cons r t => exact .cons (Rep.firm f p r) (Reps.firm f p t)
end
theorem Rep.mono {M : List Addr} {v : V} {d : D} (l : Lists H M) (k : Keep H H' M) (p : ∀ (n : Nat) (a : Addr), ρ[n]? = some a → ρ'[n]? = some a) (r : Rep K G H ρ v d) : Rep K G H' ρ' v d := r.firm (k.firm l) p
theorem Reps.mono {M : List Addr} {vs : List V} {ds : List D} (l : Lists H M) (k : Keep H H' M) (p : ∀ (n : Nat) (a : Addr), ρ[n]? = some a → ρ'[n]? = some a) (r : Reps K G H ρ vs ds) : Reps K G H' ρ' vs ds := r.firm (k.firm l) p
/-- the defs' places beneath 4096: at 4096 the error that an except suite holds, at 4097 its dict (if 4099 has not 0), at 4100 the number of its class, from 5000 on the classes -/
def Alike (G G' : Nat → Addr) : Prop := ∀ f, f < 4096 → G f = G' f
mutual
theorem Rep.alike {G' : Nat → Addr} {v : V} {d : D} (g : Alike G G') (r : Rep K G H ρ v d) : Rep K G' H ρ v d := by
  cases r with
  | non => exact .non
  | bl b => exact .bl b
  | int i => exact .int i
  | str x => exact .str x
  | tup h t => exact .tup h (Reps.alike g t)
  | lst h t => exact .lst h (Reps.alike g t)
  | loc h => exact .loc h
  | fn f h =>
    rw [g f h]
    exact .fn f h
  | ro h t => exact .ro h (Reps.alike g t)
theorem Reps.alike {G' : Nat → Addr} {vs : List V} {ds : List D} (g : Alike G G') (r : Reps K G H ρ vs ds) : Reps K G' H ρ vs ds := by
  cases r with
  | nil => exact .nil
  | cons r t => exact .cons (Rep.alike g r) (Reps.alike g t)
end
/-! ### the state of a frame -/
def SlotOk (K : PySem.W.Frag) (G : Nat → Addr) (H : Hp) (ρ : List Addr) (H0 : Hp) (x : Option (Option V)) : Slot → Prop
  | .no => True
  | .val d => ∃ v, x = some (some v) ∧ Rep K G H ρ v d
  | .own xs => ∃ a vs, x = some (some (.ref a)) ∧ H a = some (.lst vs) ∧ Reps K G H ρ vs xs ∧ a ∉ ρ ∧ H0 a = none
  | .err cc pl => x = some (some (.ref (G 4096))) ∧ G 4100 = cc ∧ (pl = none → G 4099 = 0) ∧ ∀ f y, pl = some (f, y) → G 4099 ≠ 0 ∧ ∃ fs v, H (G 4097) = some (.xd fs) ∧ fs.lookup f = some v ∧ Rep K G H ρ v y
theorem SlotOk.errs {H1 : Hp} {ρ1 : List Addr} {x : Option (Option V)} {cc : Nat} {pl : Option (Str × D)} (f : Firm H H1) (p : ∀ (n : Nat) (a : Addr), ρ[n]? = some a → ρ1[n]? = some a) (h : SlotOk K G H ρ H0 x (.err cc pl)) : SlotOk K G H1 ρ1 H0 x (.err cc pl) := by
  obtain ⟨h1, h2, h3, h4⟩ := h
  refine ⟨h1, h2, h3, fun g y e => ?_⟩
  obtain ⟨hz, fs, v, e1, e2, r⟩ := h4 g y e
  exact ⟨hz, fs, v, f _ _ e1 (fun _ z => nomatch z), e2, r.firm f p⟩
structure StoOk (K : PySem.W.Frag) (G : Nat → Addr) (H : Hp) (ρ : List Addr) (T : Sto) : Prop where
  len : ρ.length = T.length
  nd : ρ.Nodup
  at_ : ∀ (n : Nat) (a : Addr) (xs : List D), ρ[n]? = some a → T[n]? = some xs → ∃ vs, H a = some (.lst vs) ∧ Reps K G H ρ vs xs
/-- the abstract heap, from the entry's (H0, ρ0) on -/
structure HpOk (K : PySem.W.Frag) (G : Nat → Addr) (H0 : Hp) (ρ0 : List Addr) (H : Hp) (ρ : List Addr) (T : Sto) : Prop where
  sto : StoOk K G H ρ T
  keep : Keep H0 H ρ0
  pre : ∀ (n : Nat) (a : Addr), ρ0[n]? = some a → ρ[n]? = some a
  new : ∀ a, a ∈ ρ → a ∈ ρ0 ∨ H0 a = none
  l0 : Lists H0 ρ0
structure Ok (K : PySem.W.Frag) (G : Nat → Addr) (H0 : Hp) (ρ0 : List Addr) (H : Hp) (ρ : List Addr) (σ : L2.St) (η : En) (T : Sto) : Prop where
  hp : HpOk K G H0 ρ0 H ρ T
  len : η.length = σ.length
  slot : ∀ i : Nat, SlotOk K G H ρ H0 σ[i]? (η.get i)
  inj : ∀ (i j : Nat) (xs ys : List D) (a : Addr), i ≠ j → η.get i = .own xs → η.get j = .own ys → σ[i]? = some (some (.ref a)) → σ[j]? ≠ some (some (.ref a))
theorem StoOk.lists {T : Sto} (s : StoOk K G H ρ T) : Lists H ρ := fun a m => by
  obtain ⟨n, hn⟩ := List.getElem?_of_mem m
  obtain ⟨hl, _⟩ := List.getElem?_eq_some_iff.mp hn
  have hT : n < T.length := by rw [← s.len]; exact hl
  obtain ⟨vs, e, _⟩ := s.at_ n a T[n] hn (List.getElem?_eq_getElem hT)
  exact ⟨vs, e⟩
/-- an expression's way from one abstract heap to the next -/
structure Ext (H : Hp) (ρ : List Addr) (H' : Hp) (ρ' : List Addr) : Prop where
  keep : Keep H H' ρ
  pre : ∀ (n : Nat) (a : Addr), ρ[n]? = some a → ρ'[n]? = some a
  new : ∀ a, a ∈ ρ' → a ∈ ρ ∨ H a = none
theorem mem_pre (p : ∀ (n : Nat) (a : Addr), ρ[n]? = some a → ρ'[n]? = some a) {a : Addr} (m : a ∈ ρ) : a ∈ ρ' := by
  obtain ⟨n, hn⟩ := List.getElem?_of_mem m
  exact List.mem_of_getElem? (p n a hn)
theorem Ext.refl : Ext H ρ H ρ := ⟨fun _ _ h _ => h, fun _ _ h => h, fun _ h => .inl h⟩
theorem Ext.trans {H1 H2 : Hp} {ρ1 ρ2 : List Addr} (l : Lists H ρ) (a : Ext H ρ H1 ρ1) (b : Ext H1 ρ1 H2 ρ2) : Ext H ρ H2 ρ2 := by
  refine ⟨fun x o h n => ?_, fun n x h => b.pre n x (a.pre n x h), fun x m => ?_⟩
  · refine b.keep x o (a.keep x o h n) fun m => ?_
    rcases a.new x m with m | e
    · exact n m
    · rw [h] at e
      cases e
  · rcases b.new x m with m | e
    · exact a.new x m
    · by_cases hm : x ∈ ρ
      · exact .inl hm
      · right
        cases q : H x with
        | none => rfl
        | some o =>
          rw [a.keep x o q hm] at e
          cases e
/-- what a value is, the list's own address told; Hs: the abstract heap ahead of the expression -/
def RepW (K : PySem.W.Frag) (G : Nat → Addr) (Hs H : Hp) (ρ : List Addr) (v : V) : W → Prop
  | .v d => Rep K G H ρ v d
  | .l f xs => ∃ a vs, v = .ref a ∧ H a = some (.lst vs) ∧ Reps K G H ρ vs xs ∧ a ∉ ρ ∧ (f = true → Hs a = none)
theorem RepW.mono {Hs : Hp} {v : V} {w : W} (l : Lists H ρ) (x : Ext H ρ H' ρ') (r : RepW K G Hs H ρ v w) : RepW K G Hs H' ρ' v w := by
  cases w with
  | v d => exact Rep.mono l x.keep x.pre r
  | l f xs =>
    obtain ⟨a, vs, e, h, t, n, q⟩ := r
    refine ⟨a, vs, e, x.keep _ _ h n, t.mono l x.keep x.pre, fun m => ?_, q⟩
    rcases x.new a m with m | z
    · exact n m
    · rw [h] at z
      cases z
theorem RepW.back {Hs Hs' : Hp} {ρs : List Addr} {v : V} {w : W} (k : Keep Hs Hs' ρs) (hl : Lists Hs ρs) (hm : ∀ a, a ∈ ρs → a ∈ ρ) (r : RepW K G Hs' H ρ v w) : RepW K G Hs H ρ v w := by
  cases w with
  | v d => exact r
  | l f xs =>
    obtain ⟨a, vs, e, h, t, n, q⟩ := r
    refine ⟨a, vs, e, h, t, n, fun f => ?_⟩
    cases z : Hs a with
    | none => rfl
    | some o =>
      have := k a o z fun m => n (hm a m)
      rw [q f] at this
      cases this
theorem Lists.ext (l : Lists H ρ) (h : ∀ a, a ∈ ρ → H' a = H a) : Lists H' ρ := fun a m => by
  obtain ⟨vs, e⟩ := l a m
  exact ⟨vs, (h a m).trans e⟩
/-- the abstract heap grows by what is not shared -/
theorem HpOk.grow {T : Sto} (h : HpOk K G H0 ρ0 H ρ T) (k : ∀ a o, H a = some o → H' a = some o) : HpOk K G H0 ρ0 H' ρ T := by
  have l := h.sto.lists
  refine ⟨⟨h.sto.len, h.sto.nd, fun n a xs e1 e2 => ?_⟩, fun a o e n => k _ _ (h.keep a o e n), h.pre, h.new, h.l0⟩
  obtain ⟨vs, e, t⟩ := h.sto.at_ n a xs e1 e2
  exact ⟨vs, k _ _ e, t.mono l (fun a o e _ => k a o e) fun _ _ e => e⟩
theorem Ok.grow {σ : L2.St} {η : En} {T : Sto} (h : Ok K G H0 ρ0 H ρ σ η T) (k : ∀ a o, H a = some o → H' a = some o) : Ok K G H0 ρ0 H' ρ σ η T := by
  have l := h.hp.sto.lists
  refine ⟨h.hp.grow k, h.len, fun i => ?_, h.inj⟩
  have s := h.slot i
  cases e : η.get i with
  | no => trivial
  | val d =>
    rw [e] at s
    obtain ⟨v, e1, r⟩ := s
    exact ⟨v, e1, r.mono l (fun a o e _ => k a o e) fun _ _ e => e⟩
  | own xs =>
    rw [e] at s
    obtain ⟨a, vs, e1, e2, t, n, z⟩ := s
    exact ⟨a, vs, e1, k _ _ e2, t.mono l (fun a o e _ => k a o e) fun _ _ e => e, n, z⟩
  | err cc pl =>
    rw [e] at s
    exact s.errs (fun a o e _ => k a o e) fun _ _ e => e
theorem upd_grow {p : Addr} {o : HO} (n : H p = none) : ∀ a x, H a = some x → upd H p o a = some x := fun a x e => by
  rw [upd_ne (ne_of_none e n)]
  exact e
theorem Ext.grow (k : ∀ a o, H a = some o → H' a = some o) : Ext H ρ H' ρ := ⟨fun a o e _ => k a o e, fun _ _ e => e, fun _ m => .inl m⟩
theorem Ok.fresh0 {σ : L2.St} {η : En} {T : Sto} (h : HpOk K G H0 ρ0 H ρ T) {a : Addr} (e : H a = none) : H0 a = none ∧ a ∉ ρ := by
  have l := h.sto.lists
  have nr : a ∉ ρ := fun m => by
    obtain ⟨vs, q⟩ := l a m
    rw [e] at q
    cases q
  refine ⟨?_, nr⟩
  cases q : H0 a with
  | none => rfl
  | some o =>
    have := h.keep a o q fun m => nr (mem_pre h.pre m)
    rw [e] at this
    cases this
/-- the frame behind an expression's way -/
theorem Ok.ext {σ : L2.St} {η : En} {T T' : Sto} (h : Ok K G H0 ρ0 H ρ σ η T) (x : Ext H ρ H' ρ') (s : StoOk K G H' ρ' T') : Ok K G H0 ρ0 H' ρ' σ η T' := by
  have l := h.hp.sto.lists
  refine ⟨⟨s, fun a o e n => x.keep _ _ (h.hp.keep a o e n) fun m => ?_, fun n a e => x.pre n a (h.hp.pre n a e), fun a m => ?_, h.hp.l0⟩, h.len, fun i => ?_, h.inj⟩
  · rcases h.hp.new a m with m | z
    · exact n m
    · rw [e] at z
      cases z
  · rcases x.new a m with m | z
    · exact h.hp.new a m
    · exact .inr (Ok.fresh0 (σ := σ) (η := η) h.hp z).1
  · have q := h.slot i
    cases e : η.get i with
    | no => trivial
    | val d =>
      rw [e] at q
      obtain ⟨v, e1, r⟩ := q
      exact ⟨v, e1, r.mono l x.keep x.pre⟩
    | own xs =>
      rw [e] at q
      obtain ⟨a, vs, e1, e2, t, n, z⟩ := q
      refine ⟨a, vs, e1, x.keep _ _ e2 n, t.mono l x.keep x.pre, fun m => ?_, z⟩
      rcases x.new a m with m | y
      · exact n m
      · rw [e2] at y
        cases y
    | err cc pl =>
      rw [e] at q
      exact q.errs (x.keep.firm l) x.pre
/-- one list that no slot and no shared list's place knows is changed (or locked) -/
theorem Ok.chg {σ : L2.St} {η : En} {T : Sto} {a : Addr} {vs : List V} {o : HO} (h : Ok K G H0 ρ0 H ρ σ η T) (e : H a = some (.lst vs)) (nr : a ∉ ρ) (n0 : H0 a = none)
    (ns : ∀ (i : Nat) (xs : List D), η.get i = .own xs → σ[i]? ≠ some (some (.ref a))) : Ok K G H0 ρ0 (upd H a o) ρ σ η T := by
  have l : Lists H [a] := fun b m => by
    rw [List.mem_singleton.mp m]
    exact ⟨vs, e⟩
  have k : Keep H (upd H a o) [a] := fun b x q m => by
    rw [upd_ne fun z => m (by rw [z]; exact List.mem_singleton.mpr rfl)]
    exact q
  refine ⟨⟨⟨h.hp.sto.len, h.hp.sto.nd, fun n b xs e1 e2 => ?_⟩, fun b x q m => ?_, h.hp.pre, h.hp.new, h.hp.l0⟩, h.len, fun i => ?_, h.inj⟩
  · obtain ⟨us, q, t⟩ := h.hp.sto.at_ n b xs e1 e2
    refine ⟨us, ?_, t.mono l k fun _ _ e => e⟩
    rw [upd_ne fun z => nr (by rw [← z]; exact List.mem_of_getElem? e1)]
    exact q
  · rw [upd_ne fun z => by rw [z, n0] at q; cases q]
    exact h.hp.keep b x q m
  · have s := h.slot i
    cases q : η.get i with
    | no => trivial
    | val d =>
      rw [q] at s
      obtain ⟨v, e1, r⟩ := s
      exact ⟨v, e1, r.mono l k fun _ _ e => e⟩
    | own xs =>
      rw [q] at s
      obtain ⟨b, us, e1, e2, t, n, z⟩ := s
      refine ⟨b, us, e1, ?_, t.mono l k fun _ _ e => e, n, z⟩
      rw [upd_ne fun z => ns i xs q (by rw [← z]; exact e1)]
      exact e2
    | err cc pl =>
      rw [q] at s
      exact s.errs (k.firm l) fun _ _ e => e
theorem Ext.chg {Hs : Hp} {ρs : List Addr} {a : Addr} {o : HO} (x : Ext Hs ρs H ρ) (n : Hs a = none) : Ext Hs ρs (upd H a o) ρ :=
  ⟨fun b y q m => by
    rw [upd_ne fun z => by rw [z, n] at q; cases q]
    exact x.keep b y q m, x.pre, x.new⟩
/-- a fresh list's address is no slot's -/
theorem Ok.noslot {σ : L2.St} {η : En} {T : Sto} {a : Addr} (h : Ok K G H0 ρ0 H ρ σ η T) (e : H a = none) : ∀ (i : Nat) (xs : List D), η.get i = .own xs → σ[i]? ≠ some (some (.ref a)) := fun i xs q z => by
  have s := h.slot i
  rw [q] at s
  obtain ⟨b, us, e1, e2, _⟩ := s
  rw [z] at e1
  cases e1
  rw [e] at e2
  cases e2
end
end Ev
namespace Ev
open PySem PySem.Spec PyProof.Rows L2
/-- what is fixed: the written part, the defs by number, where they stand -/
structure Cfg where
  K : PySem.W.Frag
  P : Nat → Option Fd
  G : Nat → Addr
  /-- how an error lies: class, own dict, by the number of its class and what it keeps -/
  ex : Hp → List Addr → Value → Option Addr → Nat → List D → Prop
section
variable {C : Cfg} {H H' H0 H1 : Hp} {ρ ρ' ρ0 ρ1 : List Addr} {σ : L2.St} {η : En} {T : Sto}
abbrev OkC (C : Cfg) (H0 : Hp) (ρ0 : List Addr) (H : Hp) (ρ : List Addr) (σ : L2.St) (η : En) (T : Sto) : Prop := Ok C.K C.G H0 ρ0 H ρ σ η T
abbrev RepC (C : Cfg) (H : Hp) (ρ : List Addr) (v : V) (d : D) : Prop := Rep C.K C.G H ρ v d
abbrev RepsC (C : Cfg) (H : Hp) (ρ : List Addr) (v : List V) (d : List D) : Prop := Reps C.K C.G H ρ v d
abbrev RepWC (C : Cfg) (Hs H : Hp) (ρ : List Addr) (v : V) (w : W) : Prop := RepW C.K C.G Hs H ρ v w
/-- an evaluation's end, whatever abstract heap it comes to, leads on -/
def Po {α : Type} (C : Cfg) (W : WX) (H0 : Hp) (ρ0 : List Addr) (σ : L2.St) (η : En) (H : Hp) (ρ : List Addr) (r : Re α) (k : α → Sto → Hp → List Addr → Prop) : Prop := match r with
  | .ok a T1 => ∀ H1 ρ1, OkC C H0 ρ0 H1 ρ1 σ η T1 → Ext H ρ H1 ρ1 → k a T1 H1 ρ1
  | .ex c pl T1 => ∀ cls d H1 ρ1, OkC C H0 ρ0 H1 ρ1 σ η T1 → Ext H ρ H1 ρ1 → C.ex H1 ρ1 cls d c pl → W cls d σ H1
  | .no => False
variable {W : WX}
theorem Po.mono {α : Type} {r : Re α} {k k' : α → Sto → Hp → List Addr → Prop} (h : Po C W H0 ρ0 σ η H ρ r k)
    (m : ∀ a T1 H1 ρ1, r = .ok a T1 → OkC C H0 ρ0 H1 ρ1 σ η T1 → Ext H ρ H1 ρ1 → k a T1 H1 ρ1 → k' a T1 H1 ρ1) : Po C W H0 ρ0 σ η H ρ r k' := by
  cases r with
  | ok a T1 => exact fun H1 ρ1 o x => m a T1 H1 ρ1 rfl o x (h H1 ρ1 o x)
  | ex c pl T1 => exact h
  | no => exact h
/-- from further on -/
theorem Po.on {α : Type} {r : Re α} {k : α → Sto → Hp → List Addr → Prop} (l : Lists H ρ) (x : Ext H ρ H1 ρ1) (h : Po C W H0 ρ0 σ η H ρ r k) : Po C W H0 ρ0 σ η H1 ρ1 r k := by
  cases r with
  | ok a T1 => exact fun H2 ρ2 o y => h H2 ρ2 o (x.trans l y)
  | ex c pl T1 => exact fun cls d H2 ρ2 o y e => h cls d H2 ρ2 o (x.trans l y) e
  | no => exact h
theorem Po.bind {α β : Type} {r : Re α} {f : α → Sto → Re β} {k : β → Sto → Hp → List Addr → Prop} (l : Lists H ρ) (h : Po C W H0 ρ0 σ η H ρ (r.bind f) k) :
    Po C W H0 ρ0 σ η H ρ r fun a T1 H1 ρ1 => OkC C H0 ρ0 H1 ρ1 σ η T1 ∧ Ext H ρ H1 ρ1 ∧ Po C W H0 ρ0 σ η H1 ρ1 (f a T1) k := by
  cases r with
  | ok a T1 =>
    intro H1 ρ1 o x
    exact ⟨o, x, Po.on l x (show Po C W H0 ρ0 σ η H ρ (f a T1) k from h)⟩
  | ex c pl T1 => exact h
  | no => exact h
theorem Po.here {α : Type} {a : α} {k : α → Sto → Hp → List Addr → Prop} (o : OkC C H0 ρ0 H ρ σ η T) (h : Po C W H0 ρ0 σ η H ρ (.ok a T) k) : k a T H ρ := h H ρ o .refl
/-- a new object is laid -/
theorem Po.laid {α : Type} {a : α} {k : α → Sto → Hp → List Addr → Prop} {p : Addr} {x : HO} (o : OkC C H0 ρ0 H ρ σ η T) (n : H p = none) (h : Po C W H0 ρ0 σ η H ρ (.ok a T) k) : k a T (upd H p x) ρ :=
  h (upd H p x) ρ (o.grow (upd_grow n)) (.grow (upd_grow n))
/-! ### readings by the evaluator -/
/-- an expression's -/
def tE (C : Cfg) (c : Call) (W : WX) (e : E) : TE := fun σ H Q => ∃ H0 ρ0 η ρ T, OkC C H0 ρ0 H ρ σ η T ∧ Po C W H0 ρ0 σ η H ρ (evE c e η T) fun w T1 H1 ρ1 => ∀ v, RepWC C H H1 ρ1 v w → Q v H1
/-- .. kept data -/
def tD (C : Cfg) (c : Call) (W : WX) (e : E) : TE := fun σ H Q => ∃ H0 ρ0 η ρ T, OkC C H0 ρ0 H ρ σ η T ∧ Po C W H0 ρ0 σ η H ρ (evE c e η T) fun w T1 H1 ρ1 => ∃ d, w.st = some d ∧
  ∀ v H2, OkC C H0 ρ0 H2 ρ1 σ η T1 → Ext H ρ H2 ρ1 → RepC C H2 ρ1 v d → Q v H2
/-- a test's -/
def tT (C : Cfg) (c : Call) (W : WX) (e : E) : TT := fun σ H Q => ∃ H0 ρ0 η ρ T, OkC C H0 ρ0 H ρ σ η T ∧ Po C W H0 ρ0 σ η H ρ (evE c e η T) fun w T1 H1 ρ1 => ∃ b, w.b? = some b ∧ Q b H1
/-- arguments -/
def tA (C : Cfg) (c : Call) (W : WX) (es : List E) : TA := fun σ H Q => ∃ H0 ρ0 η ρ T, OkC C H0 ρ0 H ρ σ η T ∧ Po C W H0 ρ0 σ η H ρ (evDs c es η T) fun ds T1 H1 ρ1 => ∀ vs, RepsC C H1 ρ1 vs ds → Q vs H1
theorem PE.imp {X : Cx} {e : Expr} {t t' : TE} (h : PE X e t) (m : ∀ σ H Q, t' σ H Q → t σ H Q) : PE X e t' := ⟨fun pins s σ H Q I q => h.run pins s σ H Q I (m σ H Q q)⟩
theorem PT.imp {X : Cx} {e : Expr} {t t' : TT} (h : PT X e t) (m : ∀ σ H Q, t' σ H Q → t σ H Q) : PT X e t' := ⟨fun pins s σ H Q I q => h.run pins s σ H Q I (m σ H Q q)⟩
theorem PA.imp {X : Cx} {e : List Expr} {t t' : TA} (h : PA X e t) (m : ∀ σ H Q, t' σ H Q → t σ H Q) : PA X e t' := ⟨fun pos pins s σ H Q I q => h.run pos pins s σ H Q I (m σ H Q q)⟩
theorem PS.imp {X : Cx} {e : Stmt} {t t' : TS} (h : PS X e t) (m : ∀ D σ H, t' D σ H → t D σ H) : PS X e t' := ⟨fun pins s σ H D I q => h.run pins s σ H D I (m D σ H q)⟩
theorem PSs.imp {X : Cx} {e : List Stmt} {t t' : TS} (h : PSs X e t) (m : ∀ D σ H, t' D σ H → t D σ H) : PSs X e t' := ⟨fun pins s σ H D I q => h.run pins s σ H D I (m D σ H q)⟩
/-- a list alone known is locked -/
theorem PE.lockd {X : Cx} {c : Call} {e : Expr} {e' : E} (h : PE X e (tE C c W e')) : PE X e (tD C c W e') := by
  refine ⟨fun pins s σ H Q I ⟨H0, ρ0, η, ρ, T, o, p⟩ => ?_⟩
  have run := h.run pins s σ H (fun v H1 => ∃ w ρ1 T1 d, OkC C H0 ρ0 H1 ρ1 σ η T1 ∧ Ext H ρ H1 ρ1 ∧ RepWC C H H1 ρ1 v w ∧ w.st = some d ∧ ∀ v H2, OkC C H0 ρ0 H2 ρ1 σ η T1 → Ext H ρ H2 ρ1 → RepC C H2 ρ1 v d → Q v H2) I
    ⟨H0, ρ0, η, ρ, T, o, p.mono fun w T1 H1 ρ1 _ o1 x1 ⟨d, e1, q⟩ v r => ⟨w, ρ1, T1, d, o1, x1, r, e1, q⟩⟩
  refine thn run fun u s1 ⟨v, H1, I1, ru, w, ρ1, T1, d, o1, x1, r, e1, q⟩ => ?_
  cases w with
  | v d' =>
    have e2 : d' = d := Option.some.inj e1
    subst e2
    exact ⟨v, H1, I1, ru, q v H1 o1 x1 r⟩
  | l f xs =>
    cases f with
    | false => cases e1
    | true =>
      have e2 : D.lst xs = d := Option.some.inj e1
      subst e2
      obtain ⟨a, vs, ev, hl, t, n, z⟩ := r
      subst ev
      obtain ⟨od, I2⟩ := I1.lock hl trivial
      have za := z rfl
      have l0 := o.hp.sto.lists
      refine ⟨.ref a, _, I2, ru, q _ _ (o1.chg hl n (Ok.fresh0 (σ := σ) (η := η) o.hp za).1 (o.noslot za)) (x1.chg za) (.lst upd_same (t.mono (M := [a]) (fun b m => ?_) (fun b x e m => ?_) fun _ _ e => e))⟩
      · rw [List.mem_singleton.mp m]
        exact ⟨vs, hl⟩
      · rw [upd_ne fun z => m (by rw [z]; exact List.mem_singleton.mpr rfl)]
        exact e
end
end Ev
namespace Ev
open PySem PySem.Spec PyProof.Rows L2
section
variable {C : Cfg} {X : Cx}
theorem LLs : (LL : Nat) ≤ sizeLine := by rw [sizeLine_eq]; decide
/-- a list that is read -/
theorem rd_list {pins : List (Addr × Obj)} {σ : L2.St} {H : Hp} {s : Shared} {b : Addr} {xs : List V} (I : Inv X pins σ H s) (h : Rd H b (.lst xs)) :
    xs.length ≤ sizeLine ∧ ∃ (its : List Value) (n : Nat), Vals xs its ∧ s.heap.get? b = some { cls := .type "list", data := .seq its.toArray n } := h.ok I.hok
/-- list + list, both read -/
theorem op_catR : OpR X (binaryOp .Add) (fun x y H Q => ∃ l b xs zs, x = .ref l ∧ y = .ref b ∧ Rd H l (.lst xs) ∧ Rd H b (.lst zs) ∧ xs.length + zs.length ≤ sizeLine ∧ ∀ p, H p = none → Q (.ref p) (upd H p (.lst (xs ++ zs)))) := by
  rintro pins s σ H x y v u Q I rx ry ⟨l, b, xs, zs, rfl, rfl, h1, h2, hz, q⟩
  obtain rfl : v = Value.ref l := rx
  obtain rfl : u = Value.ref b := ry
  obtain ⟨_, i1, n1, r1, e1⟩ := rd_list I h1
  obtain ⟨_, i2, n2, r2, e2⟩ := rd_list I h2
  have l1 := r1.length
  have l2 := r2.length
  refine PySem.P.add_list e1 e2 ?_ (by simp only [List.size_toArray]; omega)
  rw [show i1.toArray ++ i2.toArray = (i1 ++ i2).toArray by simp]
  exact ⟨.ref s.heap.objs.size, _, I.lnew (t' := s.toks) (r1.append r2) (by simp only [List.length_append]; omega), rfl, q _ I.fresh⟩
/-- list * int, the list read -/
theorem op_repR : OpR X (binaryOp .Mult) (fun x y H Q => ∃ l k xs, x = .ref l ∧ y = .int k ∧ Rd H l (.lst xs) ∧ 0 ≤ k ∧ k < 2 ^ 62 ∧ xs.length * k.toNat ≤ sizeLine ∧ ∀ p, H p = none → Q (.ref p) (upd H p (.lst (List.replicate k.toNat xs).flatten))) := by
  rintro pins s σ H x y v u Q I rx ry ⟨l, k, xs, rfl, rfl, hR, k0, k1, hz, q⟩
  obtain ⟨tk, rfl⟩ := ry
  obtain rfl : v = Value.ref l := rx
  obtain ⟨_, its, cap, rv, eo⟩ := rd_list I hR
  have lv := rv.length
  have hs : its.toArray.size * k.toNat ≤ sizeLine := by simp only [List.size_toArray]; rw [← lv]; exact hz
  have line : (sizeLine : Nat) ≤ (2 ^ 63 - 1) / 8 := by decide
  have a1 : ¬ (!Builtin.List.listFitsIndex k) = true := by
    have fb : Builtin.List.listFitsIndex k = true := fitsIndex_both (by omega) (by omega)
    rw [fb]; decide
  have a2 : ¬ Builtin.List.listTooLong (its.toArray.size * k.toNat) = true := by
    have nl := notLongL hs
    rw [nl]; decide
  have whole : List.foldl (fun x1 x2 => x1 ++ x2) #[] (List.replicate (if its.toArray.isEmpty = true then 0 else k.toNat) its.toArray) = (List.replicate k.toNat its).flatten.toArray := by
    have base := foldl_rep its k.toNat []
    have base0 := foldl_rep its 0 []
    rw [List.nil_append] at base base0
    by_cases he : its = []
    · subst he; simp
    · rw [if_neg (by simpa using he)]; exact base
  have a3 : ¬ its.toArray.size * k.toNat > (2 ^ 63 - 1) / 8 := by omega
  refine wpAny_binaryOp_repeat_ref (T := "list") (U := "int") (by decide) ⟨_, eo, rfl⟩
    (fun s' => typeIs_int s' k tk) noFill_list_mul F.fills_int_mul F.slot_int_rmul repeat_list F.slot_int_index.lookup ?_
  refine call_meets F.slot_int_rmul (typeIs_int s k tk) F.entry_int_rmul (F.args_int_rmul_2 _ _)
    (int___rmul___int_list k tk l its.toArray cap) ⟨eo, rfl, ⟨_, eo, rfl⟩, ?_⟩
  refine call_meets F.slot_list_mul ⟨_, eo, rfl⟩ F.entry_list_mul (F.args_list_mul_2 _ _)
    (AutoListH.list___mul___list_int_3 l its.toArray cap k tk a1 a3 a2) ⟨eo, ?_⟩
  rw [whole]
  have hl2 : (List.replicate k.toNat xs).flatten.length ≤ sizeLine := by
    rw [PyProof.Rows.lm_len_rep_flat, Nat.mul_comm]; exact hz
  exact ⟨.ref _, _, I.lnew (t' := s.toks) (rv.rep k.toNat) hl2, rfl, q _ I.fresh⟩
/-! ### what stands behind a value -/
variable {H H0 : Hp} {ρ ρ0 : List Addr} {σ : L2.St} {η : En} {T : Sto}
/-- a list-like value -/
theorem seq_rd {Hs : Hp} {w : W} {v : V} {ds : List D} (o : OkC C H0 ρ0 H ρ σ η T) (r : RepWC C Hs H ρ v w) (e : w.seq T = some ds) :
    ∃ a vs, v = .ref a ∧ Rd H a (.lst vs) ∧ RepsC C H ρ vs ds := by
  cases w with
  | v d =>
    have r : RepC C H ρ v d := r
    cases r with
    | @lst a ob vs ds' h t =>
      have e1 : ds' = ds := Option.some.inj e
      subst e1
      exact ⟨a, vs, rfl, .inr ⟨ob, h⟩, t⟩
    | @loc a n h =>
      obtain ⟨vs, q, t⟩ := o.hp.sto.at_ n a ds h e
      exact ⟨a, vs, rfl, .inl q, t⟩
    | _ => exact absurd e (by simp [W.seq])
  | l f xs =>
    have e1 : xs = ds := Option.some.inj e
    subst e1
    obtain ⟨a, vs, ev, h, t, _⟩ := r
    exact ⟨a, vs, ev, .inl h, t⟩
theorem Rd.sq {K : PySem.W.Frag} {a : Addr} {vs : List V} (h : Rd H a (.lst vs)) : SqL K H a vs := .inl h
theorem items_rd {Hs : Hp} {w : W} {v : V} {ds : List D} (o : OkC C H0 ρ0 H ρ σ η T) (r : RepWC C Hs H ρ v w) (e : w.items T = some ds) :
    ∃ a vs, v = .ref a ∧ (SqL C.K H a vs ∨ SqT C.K H a vs) ∧ RepsC C H ρ vs ds := by
  by_cases ht : ∃ xs, w = .v (.tup xs)
  · obtain ⟨xs, rfl⟩ := ht
    have e1 : xs = ds := Option.some.inj e
    subst e1
    cases (show RepC C H ρ v (.tup xs) from r) with
    | tup h t => exact ⟨_, _, rfl, .inr h, t⟩
  · by_cases hr : ∃ xs, w = .v (.ro xs)
    · obtain ⟨xs, rfl⟩ := hr
      have e1 : xs = ds := Option.some.inj e
      subst e1
      cases (show RepC C H ρ v (.ro xs) from r) with
      | ro h t => exact ⟨_, _, rfl, .inl h.sq, t⟩
    have e2 : w.seq T = some ds := by
      cases w with
      | v d =>
        cases d with
        | tup xs => exact absurd ⟨xs, rfl⟩ ht
        | ro xs => exact absurd ⟨xs, rfl⟩ hr
        | _ => exact e
      | l f xs => exact e
    obtain ⟨a, vs, ev, h, t⟩ := seq_rd o r e2
    exact ⟨a, vs, ev, .inl (Rd.sq h), t⟩
/-- where an operation on values leads -/
def Fn (C : Cfg) (Q : VK) (H0 : Hp) (ρ0 : List Addr) (σ : L2.St) (η : En) (H : Hp) (ρ : List Addr) (T : Sto) (w : W) : Prop :=
  ∀ v H', OkC C H0 ρ0 H' ρ σ η T → Ext H ρ H' ρ → RepWC C H H' ρ v w → Q v H'
variable {Q : VK}
theorem Fn.data {v : V} {d : D} (k : Fn C Q H0 ρ0 σ η H ρ T (.v d)) (o : OkC C H0 ρ0 H ρ σ η T) (r : RepC C H ρ v d) : Q v H := k v H o .refl r
theorem reps_grow {H' : Hp} {vs : List V} {ds : List D} (o : OkC C H0 ρ0 H ρ σ η T) (k : ∀ a x, H a = some x → H' a = some x) (t : RepsC C H ρ vs ds) : RepsC C H' ρ vs ds :=
  t.mono o.hp.sto.lists (fun a x e _ => k a x e) fun _ _ e => e
theorem Fn.tup {vs : List V} {ds : List D} {p : Addr} (k : Fn C Q H0 ρ0 σ η H ρ T (.v (.tup ds))) (o : OkC C H0 ρ0 H ρ σ η T) (n : H p = none) (t : RepsC C H ρ vs ds) : Q (.ref p) (upd H p (.tup vs)) :=
  k _ _ (o.grow (upd_grow n)) (.grow (upd_grow n)) (show RepC C _ ρ (.ref p) (.tup ds) from .tup (.inl (.inl upd_same)) (reps_grow o (upd_grow n) t))
theorem Fn.lst {vs : List V} {ds : List D} {p : Addr} (k : Fn C Q H0 ρ0 σ η H ρ T (.l true ds)) (o : OkC C H0 ρ0 H ρ σ η T) (n : H p = none) (t : RepsC C H ρ vs ds) : Q (.ref p) (upd H p (.lst vs)) :=
  k _ _ (o.grow (upd_grow n)) (.grow (upd_grow n)) ⟨p, vs, rfl, upd_same, reps_grow o (upd_grow n) t, (Ok.fresh0 (σ := σ) (η := η) o.hp n).2, fun _ => n⟩
/-- a two-place operation of the evaluator, by values -/
def rOp (C : Cfg) (f : Sto → W → W → Option W) : R2 := fun x y H Q => ∃ H0 ρ0 σ η ρ T wa wb w Hs Hs', OkC C H0 ρ0 H ρ σ η T ∧ RepWC C Hs H ρ x wa ∧ RepWC C Hs' H ρ y wb ∧ f T wa wb = some w ∧ Fn C Q H0 ρ0 σ η H ρ T w
theorem bitsB {i : Int} {n : Nat} (h : Builtin.Int.intBits i ≤ n) : (Builtin.Int.intBits i : Int) ≤ n := Int.ofNat_le.mpr h
theorem op_addE (hK : X.K = C.K) : OpR X (binaryOp .Add) (rOp C addW) := by
  rintro pins s σ' H x y v u Q I rx ry ⟨H0, ρ0, σ, η, ρ, T, wa, wb, w, Hs, Hs', o, ra, rb, e, k⟩
  unfold addW at e
  split at e
  · rename_i i j
    cases ra; cases rb; cases e
    exact op_add pins s σ' H _ _ v u Q I rx ry ⟨i, j, rfl, rfl, k.data o (.int _)⟩
  · rename_i a b
    split at e
    · cases ra; cases rb; cases e
      exact op_add_str pins s σ' H _ _ v u Q I rx ry ⟨a, b, rfl, rfl, Nat.le_trans (by assumption) LLs, k.data o (.str _)⟩
    · cases e
  · rename_i xs ys
    split at e
    · rename_i hz
      cases ra with
      | @tup a vs _ ha ta =>
        cases rb with
        | @tup b us _ hb tb =>
          have e1 : W.v (.tup (xs ++ ys)) = w := Option.some.inj e
          subst e1
          have l1 := ta.len
          have l2 := tb.len
          refine op_catA pins s σ' H _ _ v u Q I rx ry ⟨a, b, vs, us, rfl, rfl, hK ▸ ha, hK ▸ hb, Nat.le_trans (by omega) LLs, fun z => ?_, fun _ z => ?_, fun _ _ p n => k.tup o n (ta.app tb)⟩
          · subst z
            cases ta
            exact k.data o (.tup hb tb)
          · subst z
            cases tb
            rw [List.append_nil] at k
            exact k.data o (.tup ha ta)
    · cases e
  · split at e
    · rename_i xs e1
      split at e
      · rename_i ys e2
        split at e
        · have e3 : W.l true (xs ++ ys) = w := Option.some.inj e
          subst e3
          obtain ⟨a, vs, rfl, h1, t1⟩ := seq_rd o ra e1
          obtain ⟨b, us, rfl, h2, t2⟩ := seq_rd o rb e2
          have l1 := t1.len
          have l2 := t2.len
          exact op_catR pins s σ' H _ _ v u Q I rx ry ⟨a, b, vs, us, rfl, rfl, h1, h2, Nat.le_trans (by omega) LLs, fun p n => k.lst o n (t1.app t2)⟩
        · cases e
      · cases e
    · cases e
theorem op_mulE (hK : X.K = C.K) : OpR X (binaryOp .Mult) (rOp C mulW) := by
  rintro pins s σ' H x y v u Q I rx ry ⟨H0, ρ0, σ, η, ρ, T, wa, wb, w, Hs, Hs', o, ra, rb, e, k⟩
  unfold mulW at e
  split at e
  · rename_i i j
    split at e
    · rename_i hz
      cases ra; cases rb; cases e
      exact op_mulX pins s σ' H _ _ v u Q I rx ry ⟨i, j, rfl, rfl, by unfold CMulX; simp only [BB, bits] at hz; omega, k.data o (.int _)⟩
    · cases e
  · rename_i xs j
    split at e
    · rename_i hz
      cases rb
      have e1 : W.v (.tup (List.replicate j.toNat xs).flatten) = w := Option.some.inj e
      subst e1
      cases ra with
      | @tup a vs _ ha ta =>
        have l1 := ta.len
        refine op_repT pins s σ' H _ _ v u Q I rx ry ⟨a, j, vs, rfl, rfl, hK ▸ ha, fun z => hz.1 ?_, hz.2.1, hz.2.2.1, by omega, fun p n => k.tup o n (ta.reps _)⟩
        subst z
        cases ta
        rfl
    · cases e
  · rename_i f xs j
    split at e
    · rename_i hz
      cases rb
      have e1 : W.l true (List.replicate j.toNat xs).flatten = w := Option.some.inj e
      subst e1
      obtain ⟨a, vs, rfl, h, t, _⟩ := ra
      have l1 := t.len
      have hl := LLs
      refine op_rep pins s σ' H _ _ v u Q I rx ry ⟨a, j, vs, rfl, rfl, h, by omega, by omega, Nat.le_trans ?_ hl, fun p n => k.lst o n (t.reps _)⟩
      exact Nat.mul_le_mul (show vs.length ≤ 1000 by omega) (show j.toNat ≤ 1000 by omega)
    · cases e
  · rename_i xs j
    split at e
    · rename_i hz
      cases rb
      have e1 : W.l true (List.replicate j.toNat xs).flatten = w := Option.some.inj e
      subst e1
      obtain ⟨a, vs, rfl, h, t⟩ := seq_rd (w := .v (.lst xs)) o ra rfl
      have l1 := t.len
      have hl := LLs
      refine op_repR pins s σ' H _ _ v u Q I rx ry ⟨a, j, vs, rfl, rfl, h, by omega, by omega, Nat.le_trans ?_ hl, fun p n => k.lst o n (t.reps _)⟩
      exact Nat.mul_le_mul (show vs.length ≤ 1000 by omega) (show j.toNat ≤ 1000 by omega)
    · cases e
  · cases e
/-- the other int operators -/
theorem op_intE {op : Operator} (h1 : op ≠ .Add) (h2 : op ≠ .Mult) : OpR X (binaryOp op) (rOp C fun _ => iop op) := by
  rintro pins s σ' H x y v u Q I rx ry ⟨H0, ρ0, σ, η, ρ, T, wa, wb, w, Hs, Hs', o, ra, rb, e, k⟩
  replace e : iop op wa wb = some w := e
  unfold iop at e
  split at e
  · rename_i i j
    split at e
    · rename_i n e1
      cases ra; cases rb; cases e
      have kk : Q (.int n) H := k.data o (.int _)
      cases op with
      | Sub => cases e1; exact op_sub pins s σ' H _ _ v u Q I rx ry ⟨i, j, rfl, rfl, kk⟩
      | FloorDiv =>
        simp only [intOp] at e1
        split at e1
        · rename_i hz
          cases e1
          rcases hz with ⟨hp, hz | hz⟩
          · have hb : j.natAbs.log2 < 9000 := by
              have hz : Builtin.Int.intBits j ≤ 9000 := hz
              unfold Builtin.Int.intBits at hz
              rw [if_neg (by simp; omega)] at hz
              omega
            exact op_fdivW pins s σ' H _ _ v u Q I rx ry ⟨i, j, rfl, rfl, ⟨hp, hb⟩, kk⟩
          · obtain ⟨t, rfl⟩ := (show ∃ t, v = Value.int i t from rx)
            obtain ⟨t', rfl⟩ := (show ∃ t, u = Value.int j t from ry)
            refine floordiv_int (by omega) ?_ (.inl (divp_ok hp hz).2)
            rw [Int.fdiv_eq_ediv_of_nonneg i (by omega)]
            exact ⟨.int (i / j), H, I.tok _, ⟨_, rfl⟩, kk⟩
        · cases e1
      | Mod =>
        simp only [intOp] at e1
        split at e1
        · cases e1; exact op_mod pins s σ' H _ _ v u Q I rx ry ⟨i, j, rfl, rfl, by assumption, kk⟩
        · cases e1
      | Pow =>
        simp only [intOp] at e1
        split at e1
        · cases e1; exact op_pow pins s σ' H _ _ v u Q I rx ry ⟨i, j, rfl, rfl, by assumption, kk⟩
        · cases e1
      | LShift =>
        simp only [intOp] at e1
        split at e1
        · rename_i hz
          cases e1
          refine op_shlW pins s σ' H _ _ v u Q I rx ry ⟨i, j, rfl, rfl, ⟨hz.1, ?_⟩, kk⟩
          have e2 : (2 : Int) ^ 27 = 134217728 := by decide
          have := hz.2
          simp only [BB, bits] at this
          omega
        · cases e1
      | RShift =>
        simp only [intOp] at e1
        split at e1
        · cases e1; exact op_shr pins s σ' H _ _ v u Q I rx ry ⟨i, j, rfl, rfl, by assumption, kk⟩
        · cases e1
      | BitAnd => cases e1; exact op_and pins s σ' H _ _ v u Q I rx ry ⟨i, j, rfl, rfl, kk⟩
      | BitOr => cases e1; exact op_or pins s σ' H _ _ v u Q I rx ry ⟨i, j, rfl, rfl, kk⟩
      | BitXor => cases e1; exact op_xor pins s σ' H _ _ v u Q I rx ry ⟨i, j, rfl, rfl, kk⟩
      | Add => exact absurd rfl h1
      | Mult => exact absurd rfl h2
      | MatMult => cases e1
      | Div => cases e1
    · cases e
  · cases e
theorem op_all (hK : X.K = C.K) (op : Operator) : OpR X (binaryOp op) (rOp C (opW op)) := by
  by_cases h1 : op = .Add
  · subst h1; exact op_addE hK
  · by_cases h2 : op = .Mult
    · subst h2; exact op_mulE hK
    · have e : opW op = fun _ => iop op := by
        funext S a b
        unfold opW
        cases op <;> first | rfl | exact absurd rfl h1 | exact absurd rfl h2
      rw [e]
      exact op_intE h1 h2
end
end Ev
namespace Ev
open PySem PySem.Spec PyProof.Rows L2
section
variable {C : Cfg} {X : Cx} {H H0 : Hp} {ρ ρ0 : List Addr} {σ : L2.St} {η : En} {T : Sto}
/-! ### data as the library's data -/
mutual
theorem dp_of {v : V} {d : D} {p : PyData} (r : RepC C H ρ v d) (e : d.py = some p) : Dp C.K H v p := by
  cases r with
  | non => cases e; exact .non
  | bl b => cases e; exact .bl b
  | int i => cases e; exact .int i
  | str x => cases e; exact .str x
  | @tup a vs ds h t =>
    rw [D.py] at e
    obtain ⟨ps, e1, e2⟩ := Option.map_eq_some_iff.mp e
    subst e2
    exact .tup h (dps_of t e1)
  | @lst a o vs ds h t =>
    rw [D.py] at e
    obtain ⟨ps, e1, e2⟩ := Option.map_eq_some_iff.mp e
    subst e2
    exact .lst (.inl (.inr ⟨o, h⟩)) (dps_of t e1)
  | loc h => cases e
  | fn f => cases e
  | ro h t => cases e
theorem dps_of {vs : List V} {ds : List D} {ps : List PyData} (r : RepsC C H ρ vs ds) (e : D.py.pyL ds = some ps) : DpAll C.K H vs ps := by
  cases r with
  | nil => cases e; exact .nil
  | @cons v vs d ds r t =>
    rw [D.py.pyL] at e
    split at e
    · rename_i q e1
      split at e
      · rename_i qs e2
        cases e
        exact .cons (dp_of r e1) (dps_of t e2)
      · cases e
    · cases e
end
theorem dp_w {Hs : Hp} {w : W} {v : V} {p : PyData} (o : OkC C H0 ρ0 H ρ σ η T) (r : RepWC C Hs H ρ v w) (e : w.py T = some p) : Dp C.K H v p := by
  cases w with
  | v d =>
    cases d with
    | loc n =>
      obtain ⟨xs, e1, e2⟩ := Option.bind_eq_some_iff.mp (show (T[n]?).bind (fun xs => (D.py.pyL xs).map .list) = some p from e)
      obtain ⟨ps, e3, e4⟩ := Option.map_eq_some_iff.mp e2
      subst e4
      cases (show RepC C H ρ v (.loc n) from r) with
      | @loc a _ h =>
        obtain ⟨vs, q, t⟩ := o.hp.sto.at_ n a xs h e1
        exact .lst (.inl (.inl q)) (dps_of t e3)
    | _ => exact dp_of r e
  | l f xs =>
    obtain ⟨ps, e3, e4⟩ := Option.map_eq_some_iff.mp (show (D.py.pyL xs).map .list = some p from e)
    subst e4
    obtain ⟨a, vs, ev, h, t, _⟩ := r
    subst ev
    exact .lst (.inl (.inl h)) (dps_of t e3)
/-- a comparison of the evaluator, by values -/
def rCm (C : Cfg) (f : Sto → W → W → Option Bool) : R2 := fun x y H Q => ∃ H0 ρ0 σ η ρ T wa wb b Hs Hs', OkC C H0 ρ0 H ρ σ η T ∧ RepWC C Hs H ρ x wa ∧ RepWC C Hs' H ρ y wb ∧ f T wa wb = some b ∧ Q (.bl b) H
theorem op_eqE (hK : X.K = C.K) (hu : X.A.units + 64 < cLine) : OpR X (compareOp .Eq) (rCm C eqW) := by
  rintro pins s σ' H x y v u Q I rx ry ⟨H0, ρ0, σ, η, ρ, T, wa, wb, b, Hs, Hs', o, ra, rb, e, q⟩
  unfold eqW at e
  split at e
  · rename_i i j
    cases ra; cases rb; cases e
    refine op_eq pins s σ' H _ _ v u Q I rx ry ⟨rfl, ?_⟩
    simpa using q
  · rename_i i j
    cases ra; cases rb; cases e
    refine op_eq pins s σ' H _ _ v u Q I rx ry ⟨rfl, ?_⟩
    simpa using q
  · rename_i i j
    cases ra; cases rb; cases e
    refine op_eq pins s σ' H _ _ v u Q I rx ry ⟨rfl, ?_⟩
    rw [dec_bl]
    exact q
  · cases ra; cases rb; cases e
    exact op_eq pins s σ' H _ _ v u Q I rx ry ⟨rfl, by simpa using q⟩
  · split at e
    · rename_i p1 e1
      split at e
      · rename_i p2 e2
        split at e
        · rename_i hs
          cases e
          refine op_eqD hu pins s σ' H x y v u Q I rx ry ⟨p1, p2, ?_, ?_, hs.1, hs.2, q⟩
          · rw [hK]; exact dp_w o ra e1
          · rw [hK]; exact dp_w o rb e2
        · cases e
      · cases e
    · cases e
theorem op_neE (hK : X.K = C.K) (hu : X.A.units + 64 < cLine) : OpR X (compareOp .NotEq) (rCm C fun T a b => (eqW T a b).map (!·)) := by
  rintro pins s σ' H x y v u Q I rx ry ⟨H0, ρ0, σ, η, ρ, T, wa, wb, b, Hs, Hs', o, ra, rb, e, q⟩
  obtain ⟨k, e2, rfl⟩ := Option.map_eq_some_iff.mp e
  clear e
  have e := e2
  clear e2
  unfold eqW at e
  split at e
  · rename_i i j
    cases ra; cases rb; cases e
    refine op_ne pins s σ' H _ _ v u Q I rx ry ⟨rfl, ?_⟩
    simpa using q
  · rename_i i j
    cases ra; cases rb; cases e
    refine op_ne pins s σ' H _ _ v u Q I rx ry ⟨rfl, ?_⟩
    simpa using q
  · rename_i i j
    cases ra; cases rb; cases e
    refine op_ne pins s σ' H _ _ v u Q I rx ry ⟨rfl, ?_⟩
    rw [dec_bl]
    exact q
  · cases ra; cases rb; cases e
    exact op_ne pins s σ' H _ _ v u Q I rx ry ⟨rfl, by simpa using q⟩
  · split at e
    · rename_i p1 e1
      split at e
      · rename_i p2 e2
        split at e
        · rename_i hs
          cases e
          refine op_neD hu pins s σ' H x y v u Q I rx ry ⟨p1, p2, ?_, ?_, hs.1, hs.2, q⟩
          · rw [hK]; exact dp_w o ra e1
          · rw [hK]; exact dp_w o rb e2
        · cases e
      · cases e
    · cases e
/-- a value is not a bool's -/
theorem is_bool {M : Model} {A : Around} {E : Value → Shared → Prop} {s : Shared} {Hs : Hp} {wa : W} {x : V} {v : Value} {b : Bool} {Q : Value → Shared → Prop} (r : RepWC C Hs H ρ x wa) (rx : RelV x v)
    (q : Q (.bool (isBl b wa)) s) : wpAny M A (compareOp .Is v (.bool b)) Q E s := by
  cases wa with
  | v d =>
    cases (show RepC C H ρ x d from r) with
    | non => cases rx; exact wpAny_is_other rfl (by simp) q
    | bl y =>
      cases rx
      by_cases e : y = b
      · subst e
        exact wpAny_is_self rfl (by simpa [isBl] using q)
      · refine wpAny_is_other rfl (by simpa using e) ?_
        have : (y == b) = false := by simpa using e
        simpa [this, isBl] using q
    | int i => obtain ⟨t, rfl⟩ := (show ∃ t, v = Value.int i t from rx); exact wpAny_is_other rfl (by simp) q
    | str i => obtain ⟨t, rfl⟩ := (show ∃ t, v = Value.str i t from rx); exact wpAny_is_other rfl (by simp) q
    | tup h t => cases rx; exact wpAny_is_other rfl (by simp) q
    | lst h t => cases rx; exact wpAny_is_other rfl (by simp) q
    | loc h => cases rx; exact wpAny_is_other rfl (by simp) q
    | fn f => cases rx; exact wpAny_is_other rfl (by simp) q
    | ro h t => cases rx; exact wpAny_is_other rfl (by simp) q
  | l f xs =>
    obtain ⟨a, vs, rfl, _⟩ := r
    cases rx
    exact wpAny_is_other rfl (by simp) q
theorem isnt_bool {M : Model} {A : Around} {E : Value → Shared → Prop} {s : Shared} {Hs : Hp} {wa : W} {x : V} {v : Value} {b : Bool} {Q : Value → Shared → Prop} (r : RepWC C Hs H ρ x wa) (rx : RelV x v)
    (q : Q (.bool (!isBl b wa)) s) : wpAny M A (compareOp .IsNot v (.bool b)) Q E s := by
  cases wa with
  | v d =>
    cases (show RepC C H ρ x d from r) with
    | non => cases rx; exact wpAny_isNot_other rfl (by simp) q
    | bl y =>
      cases rx
      by_cases e : y = b
      · subst e
        exact wpAny_isNot_self rfl (by simpa [isBl] using q)
      · refine wpAny_isNot_other rfl (by simpa using e) ?_
        have : (y == b) = false := by simpa using e
        simpa [this, isBl] using q
    | int i => obtain ⟨t, rfl⟩ := (show ∃ t, v = Value.int i t from rx); exact wpAny_isNot_other rfl (by simp) q
    | str i => obtain ⟨t, rfl⟩ := (show ∃ t, v = Value.str i t from rx); exact wpAny_isNot_other rfl (by simp) q
    | tup h t => cases rx; exact wpAny_isNot_other rfl (by simp) q
    | lst h t => cases rx; exact wpAny_isNot_other rfl (by simp) q
    | loc h => cases rx; exact wpAny_isNot_other rfl (by simp) q
    | fn f => cases rx; exact wpAny_isNot_other rfl (by simp) q
    | ro h t => cases rx; exact wpAny_isNot_other rfl (by simp) q
  | l f xs =>
    obtain ⟨a, vs, rfl, _⟩ := r
    cases rx
    exact wpAny_isNot_other rfl (by simp) q
theorem non_iff {Hs : Hp} {wa : W} {x : V} (r : RepWC C Hs H ρ x wa) : decide (x = .non) = isNon wa := by
  cases wa with
  | v d => cases (show RepC C H ρ x d from r) <;> simp [isNon]
  | l f xs =>
    obtain ⟨a, vs, rfl, _⟩ := r
    simp [isNon]
theorem op_isE : OpR X (compareOp .Is) (rCm C fun _ => isW) := by
  rintro pins s σ' H x y v u Q I rx ry ⟨H0, ρ0, σ, η, ρ, T, wa, wb, b, Hs, Hs', o, ra, rb, e, q⟩
  replace e : isW wa wb = some b := e
  unfold isW at e
  split at e
  · cases rb
    refine op_isN pins s σ' H x _ v u Q I rx ry ⟨rfl, ?_⟩
    rw [non_iff ra, Option.some.inj e]
    exact q
  · rename_i c
    cases rb
    cases ry
    rw [← Option.some.inj e] at q
    exact is_bool ra rx ⟨.bl _, H, I, rfl, q⟩
  · cases e
theorem op_isntE : OpR X (compareOp .IsNot) (rCm C fun _ a b => (isW a b).map (!·)) := by
  rintro pins s σ' H x y v u Q I rx ry ⟨H0, ρ0, σ, η, ρ, T, wa, wb, b, Hs, Hs', o, ra, rb, e, q⟩
  obtain ⟨k, e2, rfl⟩ := Option.map_eq_some_iff.mp (show (isW wa wb).map (!·) = some b from e)
  clear e
  have e := e2
  clear e2
  unfold isW at e
  split at e
  · cases rb
    refine op_notN pins s σ' H x _ v u Q I rx ry ⟨rfl, ?_⟩
    rw [non_iff ra, Option.some.inj e]
    exact q
  · rename_i c
    cases rb
    cases ry
    rw [← Option.some.inj e] at q
    exact isnt_bool ra rx ⟨.bl _, H, I, rfl, q⟩
  · cases e
theorem flat_of {v x : V} {d : D} (r : RepC C H ρ v d) (e : d.flat = some x) : v = x := by
  cases r <;> cases e <;> rfl
theorem flats_of : ∀ {vs xs : List V} {ds : List D}, RepsC C H ρ vs ds → flats ds = some xs → vs = xs
  | _, _, _, .nil, e => by cases e; rfl
  | _, _, _, .cons r t, e => by
    rw [flats] at e
    split at e
    · rename_i y e1
      split at e
      · rename_i ys e2
        cases e
        rw [flat_of r e1, flats_of t e2]
      · cases e
    · cases e
theorem in_parts {Hs Hs' : Hp} {x y : V} {wa wb : W} {b : Bool} (o : OkC C H0 ρ0 H ρ σ η T) (ra : RepWC C Hs H ρ x wa) (rb : RepWC C Hs' H ρ y wb) (e : inW T wa wb = some b) :
    ∃ p xs, y = .ref p ∧ (SqL C.K H p xs ∨ SqT C.K H p xs) ∧ flatV x = true ∧ xs.all flatV = true ∧ b = inV x xs := by
  unfold inW at e
  split at e
  · rename_i d
    split at e
    · rename_i x' e1
      have ex := flat_of (show RepC C H ρ x d from ra) e1
      subst ex
      split at e
      · split at e
        · rename_i ds e2
          split at e
          · rename_i xs e3
            split at e
            · obtain ⟨p, vs, ey, hq, t⟩ := items_rd o rb e2
              have := flats_of t e3
              subst this
              exact ⟨p, vs, ey, hq, by assumption, by assumption, (Option.some.inj e).symm⟩
            · cases e
          · cases e
        · cases e
      · cases e
    · cases e
  · cases e
theorem op_inE (hK : X.K = C.K) : OpR X (compareOp .In) (rCm C inW) := by
  rintro pins s σ' H x y v u Q I rx ry ⟨H0, ρ0, σ, η, ρ, T, wa, wb, b, Hs, Hs', o, ra, rb, e, q⟩
  obtain ⟨p, xs, ey, hq, f1, f2, rfl⟩ := in_parts o ra rb e
  exact op_in_seq pins s σ' H x y v u Q I rx ry ⟨p, xs, ey, hK ▸ hq, f1, f2, q⟩
theorem op_ninE (hK : X.K = C.K) : OpR X (compareOp .NotIn) (rCm C fun T a b => (inW T a b).map (!·)) := by
  rintro pins s σ' H x y v u Q I rx ry ⟨H0, ρ0, σ, η, ρ, T, wa, wb, b, Hs, Hs', o, ra, rb, e, q⟩
  obtain ⟨k, e2, rfl⟩ := Option.map_eq_some_iff.mp e
  obtain ⟨p, xs, ey, hq, f1, f2, rfl⟩ := in_parts o ra rb e2
  exact op_notIn_seq pins s σ' H x y v u Q I rx ry ⟨p, xs, ey, hK ▸ hq, f1, f2, q⟩
theorem op_ordE {op : CmpOp} (h : op = .Lt ∨ op = .LtE ∨ op = .Gt ∨ op = .GtE) : OpR X (compareOp op) (rCm C (cmpW op)) := by
  rintro pins s σ' H x y v u Q I rx ry ⟨H0, ρ0, σ, η, ρ, T, wa, wb, b, Hs, Hs', o, ra, rb, e, q⟩
  have e2 : ∃ i j, wa = .v (.int i) ∧ wb = .v (.int j) ∧ ordI op i j = some b := by
    rcases h with rfl | rfl | rfl | rfl <;> simp only [cmpW] at e <;> split at e <;> first | exact ⟨_, _, rfl, rfl, e⟩ | cases e
  obtain ⟨i, j, rfl, rfl, e⟩ := e2
  cases ra; cases rb
  rcases h with rfl | rfl | rfl | rfl <;> cases e
  · exact op_lt pins s σ' H _ _ v u Q I rx ry ⟨i, j, rfl, rfl, q⟩
  · exact op_le pins s σ' H _ _ v u Q I rx ry ⟨i, j, rfl, rfl, q⟩
  · exact op_gt pins s σ' H _ _ v u Q I rx ry ⟨i, j, rfl, rfl, q⟩
  · exact op_ge pins s σ' H _ _ v u Q I rx ry ⟨i, j, rfl, rfl, q⟩
theorem op_cmp (hK : X.K = C.K) (hu : X.A.units + 64 < cLine) (op : CmpOp) : OpR X (compareOp op) (rCm C (cmpW op)) := by
  cases op with
  | Eq => exact op_eqE hK hu
  | NotEq => exact op_neE hK hu
  | Lt => exact op_ordE (.inl rfl)
  | LtE => exact op_ordE (.inr (.inl rfl))
  | Gt => exact op_ordE (.inr (.inr (.inl rfl)))
  | GtE => exact op_ordE (.inr (.inr (.inr rfl)))
  | Is => exact op_isE
  | IsNot => exact op_isntE
  | In => exact op_inE hK
  | NotIn => exact op_ninE hK
/-! ### items, parts -/
theorem atI_rep {vs : List V} {ds : List D} {k : Int} {d : D} (t : RepsC C H ρ vs ds) (e : atI ds k = some d) : ∃ v, atI vs k = some v ∧ RepC C H ρ v d := by
  unfold atI at e ⊢
  obtain ⟨j, e1, e2⟩ := Option.bind_eq_some_iff.mp e
  obtain ⟨v, e3, r⟩ := t.at e2
  exact ⟨v, by rw [t.len, e1]; exact e3, r⟩
theorem ix_all (hK : X.K = C.K) : IxR X (rOp C ixW) := by
  rintro value slice pins s σ' H x y v u Q I rx ry ⟨H0, ρ0, σ, η, ρ, T, wa, wb, w, Hs, Hs', o, ra, rb, e, k⟩ hs
  unfold ixW at e
  split at e
  · rename_i i
    cases rb
    split at e
    · rename_i ds e1
      split at e
      · rename_i d e2
        cases e
        obtain ⟨p, vs, rfl, hq, t⟩ := items_rd o ra e1
        obtain ⟨z, e3, r⟩ := atI_rep t e2
        refine ix_seq value slice pins s σ' H _ _ v u Q I rx ry ?_ hs
        rcases hq with hq | hq
        · exact .inl ⟨p, vs, i, z, rfl, rfl, hK ▸ hq, e3, k.data o r⟩
        · exact .inr (.inl ⟨p, vs, i, z, rfl, rfl, hK ▸ hq, e3, k.data o r⟩)
      · cases e
    · split at e
      · rename_i z _
        split at e
        · split at e
          · rename_i c e2
            cases e
            cases ra
            exact ix_seq value slice pins s σ' H _ _ v u Q I rx ry (.inr (.inr ⟨z, i, c, rfl, rfl, Nat.le_trans (by assumption) LLs, e2, k.data o (.str _)⟩)) hs
          · cases e
        · cases e
      · cases e
  · cases e
theorem cut_rep {vs : List V} {ds : List D} {lo hi : Option Int} (t : RepsC C H ρ vs ds) : RepsC C H ρ (cutV vs lo hi) (cutD ds lo hi) := by
  unfold cutV cutD
  rw [t.len]
  exact (t.dp _).tk _
def rSlE (C : Cfg) : V → Option Int → Option Int → Hp → VK → Prop := fun x lo hi H Q => ∃ H0 ρ0 σ η ρ T wa w Hs, OkC C H0 ρ0 H ρ σ η T ∧ RepWC C Hs H ρ x wa ∧ slW T wa lo hi = some w ∧ Fn C Q H0 ρ0 σ η H ρ T w
theorem sl_all (hK : X.K = C.K) : SlR X (rSlE C) := by
  rintro pins s σ' H x v vl vu lo hi sl Q I rx hs pl pu ⟨H0, ρ0, σ, η, ρ, T, wa, w, Hs, o, ra, e, k⟩
  unfold slW at e
  split at e
  · rename_i ds
    have e1 : W.v (.tup (cutD ds lo hi)) = w := Option.some.inj e
    subst e1
    cases ra with
    | @tup a vs _ h t =>
      refine sl_tupA pins s σ' H _ v vl vu lo hi sl Q I rx hs pl pu ⟨a, vs, rfl, hK ▸ h, fun z => ?_, fun _ p n => k.tup o n (cut_rep t)⟩
      have e2 : cutD ds lo hi = ds := by
        unfold cutD
        rw [← t.len, z.1, z.2, Nat.sub_zero, List.drop_zero, t.len, List.take_length]
      rw [e2] at k
      exact k.data o (.tup h t)
  · rename_i ds
    have e2 : W.l true (cutD ds lo hi) = w := Option.some.inj e
    subst e2
    cases ra with
    | @ro a vs _ h t => exact sl_list pins s σ' H _ v vl vu lo hi sl Q I rx hs pl pu ⟨a, vs, rfl, hK ▸ h.sq, fun p n => k.lst o n (cut_rep t)⟩
  · split at e
    · rename_i ds e1
      have e2 : W.l true (cutD ds lo hi) = w := Option.some.inj e
      subst e2
      obtain ⟨a, vs, rfl, h, t⟩ := seq_rd o ra e1
      exact sl_list pins s σ' H _ v vl vu lo hi sl Q I rx hs pl pu ⟨a, vs, rfl, Rd.sq h, fun p n => k.lst o n (cut_rep t)⟩
    · cases e
end
end Ev
namespace Ev
open PySem PySem.Spec PyProof.Rows L2
section
variable {C : Cfg} {c : Call} {W : WX} {H H0 : Hp} {ρ ρ0 : List Addr} {σ : L2.St} {η : En} {T : Sto}
/-- a value of an expression's, at hand -/
structure Val1 (C : Cfg) (W : WX) (H0 : Hp) (ρ0 : List Addr) (σ : L2.St) (η : En) (Hs : Hp) (ρs : List Addr) (H : Hp) (ρ : List Addr) (T : Sto) (v : V) (w : Ev.W) : Prop where
  ok : OkC C H0 ρ0 H ρ σ η T
  ext : Ext Hs ρs H ρ
  rep : RepWC C Hs H ρ v w
theorem Val1.next {H1 : Hp} {ρ1 : List Addr} {T1 : Sto} {v : V} {w : Ev.W} {Hs : Hp} {ρs : List Addr} (r : RepWC C Hs H ρ v w) (o : OkC C H0 ρ0 H ρ σ η T) (x : Ext H ρ H1 ρ1) : RepWC C Hs H1 ρ1 v w := r.mono o.hp.sto.lists x
theorem split1 {a : E} {F : Ev.W → Sto → Re Ev.W} {k : Ev.W → Sto → Hp → List Addr → Prop} {R : VK} (o : OkC C H0 ρ0 H ρ σ η T) (p : Po C W H0 ρ0 σ η H ρ ((evE c a η T).bind F) k)
    (q : ∀ v w H1 ρ1 T1, OkC C H0 ρ0 H1 ρ1 σ η T1 → Ext H ρ H1 ρ1 → RepWC C H H1 ρ1 v w → Po C W H0 ρ0 σ η H1 ρ1 (F w T1) k → R v H1) : tE C c W a σ H R :=
  ⟨H0, ρ0, η, ρ, T, o, (Po.bind o.hp.sto.lists p).mono fun w T1 H1 ρ1 _ _ _ ⟨o1, x1, p1⟩ v r => q v w H1 ρ1 T1 o1 x1 r p1⟩
theorem split2 {a b : E} {F : Ev.W → Ev.W → Sto → Re Ev.W} {k : Ev.W → Sto → Hp → List Addr → Prop} {R : V → V → Hp → Prop} (o : OkC C H0 ρ0 H ρ σ η T)
    (p : Po C W H0 ρ0 σ η H ρ ((evE c a η T).bind fun x T => (evE c b η T).bind fun y T => F x y T) k)
    (q : ∀ v u wa wb H2 ρ2 T2, OkC C H0 ρ0 H2 ρ2 σ η T2 → Ext H ρ H2 ρ2 → RepWC C H H2 ρ2 v wa → RepWC C H H2 ρ2 u wb → Po C W H0 ρ0 σ η H2 ρ2 (F wa wb T2) k → R v u H2) :
    tE C c W a σ H fun v H1 => tE C c W b σ H1 fun u H2 => R v u H2 :=
  split1 o p fun v wa H1 ρ1 T1 o1 x1 r1 p1 => split1 o1 p1 fun u wb H2 ρ2 T2 o2 x2 r2 p2 => q v u wa wb H2 ρ2 T2 o2 (x1.trans o.hp.sto.lists x2) (r1.mono o1.hp.sto.lists x2)
    (r2.back x1.keep o.hp.sto.lists fun a m => mem_pre x2.pre (mem_pre x1.pre m)) p2
/-- the end of an evaluation by values -/
theorem fin_of {w : Ev.W} {Hs : Hp} {ρs : List Addr} {Q : VK} (ls : Lists Hs ρs) (x : Ext Hs ρs H ρ) (p : Po C W H0 ρ0 σ η H ρ (.ok w T) fun w T1 H1 ρ1 => ∀ v, RepWC C Hs H1 ρ1 v w → Q v H1) : Fn C Q H0 ρ0 σ η H ρ T w :=
  fun v H' o' x' r => p H' ρ o' x' v (r.back x.keep ls fun a m => mem_pre x'.pre (mem_pre x.pre m))
theorem fin_bl {b : Bool} {Hs : Hp} {Q : VK} (o : OkC C H0 ρ0 H ρ σ η T) (p : Po C W H0 ρ0 σ η H ρ (.ok (.v (.bl b)) T) fun w T1 H1 ρ1 => ∀ v, RepWC C Hs H1 ρ1 v w → Q v H1) : Q (.bl b) H :=
  p H ρ o .refl _ (.bl b)
section
variable {X : Cx} {e1 e2 e3 : Expr} {a b d : E} {pos : Pos}
theorem se_bin {op : Operator} (hK : X.K = C.K) (ha : PE X e1 (tE C c W a)) (hb : PE X e2 (tE C c W b)) : PE X (.BinOp e1 op e2 pos) (tE C c W (.bin op a b)) := by
  refine PE.imp (pe_op (op_all hK op) ha hb) fun σ H Q ⟨H0, ρ0, η, ρ, T, o, p⟩ => ?_
  refine split2 o p fun v u wa wb H2 ρ2 T2 o2 x2 r1 r2 p2 => ?_
  cases e : opW op T2 wa wb with
  | none =>
    rw [e] at p2
    exact p2.elim
  | some w =>
    rw [e] at p2
    exact ⟨H0, ρ0, σ, η, ρ2, T2, wa, wb, w, H, H, o2, r1, r2, e, fin_of o.hp.sto.lists x2 p2⟩
theorem int_of {Hs : Hp} {v : V} {w : Ev.W} {i : Int} (r : RepWC C Hs H ρ v w) (e : w.i? = some i) : v = .int i ∧ w = .v (.int i) := by
  cases w with
  | v d =>
    cases d with
    | int j =>
      cases (show some j = some i from e)
      cases (show RepC C H ρ v (.int i) from r)
      exact ⟨rfl, rfl⟩
    | _ => exact absurd e (by simp [W.i?])
  | l f xs => exact absurd e (by simp [W.i?])
theorem bl_of {Hs : Hp} {v : V} {w : Ev.W} {i : Bool} (r : RepWC C Hs H ρ v w) (e : w.b? = some i) : v = .bl i ∧ w = .v (.bl i) := by
  cases w with
  | v d =>
    cases d with
    | bl j =>
      cases (show some j = some i from e)
      cases (show RepC C H ρ v (.bl i) from r)
      exact ⟨rfl, rfl⟩
    | _ => exact absurd e (by simp [W.b?])
  | l f xs => exact absurd e (by simp [W.b?])
theorem se_neg (ha : PE X e1 (tE C c W a)) : PE X (.UnaryOp .USub e1 pos) (tE C c W (.neg a)) := by
  refine PE.imp (pe_un un_neg ha) fun σ H Q ⟨H0, ρ0, η, ρ, T, o, p⟩ => ?_
  refine split1 o p fun v w H1 ρ1 T1 o1 x1 r1 p1 => ?_
  cases e : w.i? with
  | none =>
    rw [e] at p1
    exact p1.elim
  | some i =>
    rw [e] at p1
    obtain ⟨rfl, _⟩ := int_of r1 e
    exact ⟨i, rfl, p1 H1 ρ1 o1 .refl _ (.int _)⟩
theorem cmp_rd {op : CmpOp} (hu : X.A.units + 64 < cLine) {Q : VK} {H : Hp} (o : OkC C H0 ρ0 H ρ σ η T) {Hs Hb Hs' : Hp} {v u : V} {wa wb : Ev.W} {k : Bool → Prop} (r1 : RepWC C Hs H ρ v wa) (r2 : RepWC C Hs' H ρ u wb)
    {β : Type} {f : Bool → Sto → Re β} {kk : β → Sto → Hp → List Addr → Prop} (p : Po C W H0 ρ0 σ η H ρ ((Re.of (cmpW op T wa wb) T).bind f) kk) (q : ∀ b, Po C W H0 ρ0 σ η H ρ (f b T) kk → Q (.bl b) H) :
    rCm C (cmpW op) v u H Q := by
  cases e : cmpW op T wa wb with
  | none =>
    rw [e] at p
    exact p.elim
  | some b =>
    rw [e] at p
    exact ⟨H0, ρ0, σ, η, ρ, T, wa, wb, b, Hs, Hs', o, r1, r2, e, q b p⟩
theorem se_cmp {op : CmpOp} (hK : X.K = C.K) (hu : X.A.units + 64 < cLine) (hm : behindInMarks op e2 = false) (ha : PE X e1 (tE C c W a)) (hb : PE X e2 (tE C c W b)) : PE X (.Compare e1 [op] [e2] pos) (tE C c W (.cmp op a b)) := by
  refine PE.imp (pe_cmpR (op_cmp hK hu op) ha hb hm) fun σ H Q ⟨H0, ρ0, η, ρ, T, o, p⟩ => ?_
  refine split2 o p fun v u wa wb H2 ρ2 T2 o2 x2 r1 r2 p2 => ?_
  exact cmp_rd (k := fun _ => True) (Hb := H) hu o2 r1 r2 p2 fun b p3 => p3 H2 ρ2 o2 .refl _ (.bl b)
theorem st_cmp {op : CmpOp} (hK : X.K = C.K) (hu : X.A.units + 64 < cLine) (hm : behindInMarks op e2 = false) (ha : PE X e1 (tE C c W a)) (hb : PE X e2 (tE C c W b)) : PT X (.Compare e1 [op] [e2] pos) (tT C c W (.cmp op a b)) := by
  refine PT.imp (pt_cmpR (op_cmp hK hu op) ha hb hm) fun σ H Q ⟨H0, ρ0, η, ρ, T, o, p⟩ => ?_
  refine split2 (R := fun v u H2 => rCm C (cmpW op) v u H2 fun z H3 => ∃ k, z = .bl k ∧ Q k H3) o p fun v u wa wb H2 ρ2 T2 o2 x2 r1 r2 p2 => ?_
  refine cmp_rd (k := fun _ => True) (Hb := H) hu o2 r1 r2 p2 fun b p3 => ?_
  obtain ⟨b', e, q⟩ := p3 H2 ρ2 o2 .refl
  cases e
  exact ⟨b, rfl, q⟩
/-- a chain of two, the second operator asked of the value in the middle -/
theorem se_chain {op op2 : CmpOp} (hK : X.K = C.K) (hu : X.A.units + 64 < cLine) (hm : lastMarks [op, op2] [e2, e3] = false) (ha : PE X e1 (tE C c W a)) (hb : PE X e2 (tE C c W b)) (hd : PE X e3 (tE C c W d)) :
    PE X (.Compare e1 [op, op2] [e2, e3] pos) (tE C c W (.chain op op2 a b d)) := by
  refine PE.imp (pe_chain (op_cmp hK hu op) (op_cmp hK hu op2) ha hb hd hm) fun σ H Q ⟨H0, ρ0, η, ρ, T, o, p⟩ => ?_
  refine split2 (R := fun v u H2 => rCm C (cmpW op) v u H2 fun z H3 => ∃ k, z = .bl k ∧ (if k = true then tE C c W d σ H3 fun w' H4 => rCm C (cmpW op2) u w' H4 Q else Q (.bl false) H3)) o p fun v u wa wb H2 ρ2 T2 o2 x2 r1 r2 p2 => ?_
  refine cmp_rd (k := fun _ => True) (Hb := H) hu o2 r1 r2 p2 fun b p3 => ⟨b, rfl, ?_⟩
  cases b with
  | false => exact p3 H2 ρ2 o2 .refl _ (.bl false)
  | true =>
    rw [if_pos rfl] at p3 ⊢
    refine split1 o2 p3 fun z wz H3 ρ3 T3 o3 x3 r3 p4 => ?_
    exact cmp_rd (k := fun _ => True) (Hb := H) hu o3 (r2.mono o2.hp.sto.lists x3) r3 p4 fun b p5 => p5 H3 ρ3 o3 .refl _ (.bl b)
theorem st_chain {op op2 : CmpOp} (hK : X.K = C.K) (hu : X.A.units + 64 < cLine) (hm : lastMarks [op, op2] [e2, e3] = false) (ha : PE X e1 (tE C c W a)) (hb : PE X e2 (tE C c W b)) (hd : PE X e3 (tE C c W d)) :
    PT X (.Compare e1 [op, op2] [e2, e3] pos) (tT C c W (.chain op op2 a b d)) := by
  refine PT.imp (pt_chain (op_cmp hK hu op) (op_cmp hK hu op2) ha hb hd hm) fun σ H Q ⟨H0, ρ0, η, ρ, T, o, p⟩ => ?_
  refine split2 (R := fun v u H2 => rCm C (cmpW op) v u H2 fun z H3 => ∃ k, z = .bl k ∧ (if k = true then tE C c W d σ H3 fun w' H4 => rCm C (cmpW op2) u w' H4 fun x H' => ∃ k, x = .bl k ∧ Q k H' else ∃ k, V.bl false = .bl k ∧ Q k H3)) o p fun v u wa wb H2 ρ2 T2 o2 x2 r1 r2 p2 => ?_
  refine cmp_rd (k := fun _ => True) (Hb := H) hu o2 r1 r2 p2 fun b p3 => ⟨b, rfl, ?_⟩
  cases b with
  | false =>
    obtain ⟨b', e, q⟩ := p3 H2 ρ2 o2 .refl
    cases e
    exact ⟨false, rfl, q⟩
  | true =>
    rw [if_pos rfl] at p3 ⊢
    refine split1 o2 p3 fun z wz H3 ρ3 T3 o3 x3 r3 p4 => ?_
    refine cmp_rd (k := fun _ => True) (Hb := H) hu o3 (r2.mono o2.hp.sto.lists x3) r3 p4 fun b p5 => ?_
    obtain ⟨b', e, q⟩ := p5 H3 ρ3 o3 .refl
    cases e
    exact ⟨b, rfl, q⟩
/-- an expression that is asked as a test by its value -/
theorem st_val (he : ∀ whole, isTrue e1 X.env whole = (do let v ← whole; standAt e1.pos; holding [v] (truthy v))) (ha : PE X e1 (tE C c W a)) : PT X e1 (tT C c W a) := by
  refine PT.imp (pt_val ha he) fun σ H Q ⟨H0, ρ0, η, ρ, T, o, p⟩ => ?_
  refine ⟨H0, ρ0, η, ρ, T, o, p.mono fun w T1 H1 ρ1 _ _ _ ⟨b, e, q⟩ v r => ?_⟩
  obtain ⟨rfl, _⟩ := bl_of r e
  exact ⟨b, rfl, q⟩
theorem se_not (ha : PE X e1 (tE C c W a)) : PE X (.UnaryOp .Not e1 pos) (tE C c W (.not a)) := by
  refine PE.imp (pe_not ha) fun σ H Q ⟨H0, ρ0, η, ρ, T, o, p⟩ => ?_
  refine split1 o p fun v w H1 ρ1 T1 o1 x1 r1 p1 => ?_
  cases e : w.b? with
  | none =>
    rw [e] at p1
    exact p1.elim
  | some b =>
    rw [e] at p1
    obtain ⟨rfl, _⟩ := bl_of r1 e
    exact ⟨b, rfl, p1 H1 ρ1 o1 .refl _ (.bl _)⟩
/-- a test's split -/
theorem splitT {α : Type} {F : Ev.W → Sto → Re α} {k : α → Sto → Hp → List Addr → Prop} {R : Bool → Hp → Prop} (o : OkC C H0 ρ0 H ρ σ η T) (p : Po C W H0 ρ0 σ η H ρ ((evE c a η T).bind fun x T => match x.b? with
      | some b => F (.v (.bl b)) T
      | none => .no) k)
    (q : ∀ b H1 ρ1 T1, OkC C H0 ρ0 H1 ρ1 σ η T1 → Ext H ρ H1 ρ1 → Po C W H0 ρ0 σ η H1 ρ1 (F (.v (.bl b)) T1) k → R b H1) : tT C c W a σ H R := by
  refine ⟨H0, ρ0, η, ρ, T, o, (Po.bind o.hp.sto.lists p).mono fun w T1 H1 ρ1 _ _ _ ⟨o1, x1, p1⟩ => ?_⟩
  cases e : w.b? with
  | none =>
    rw [e] at p1
    exact p1.elim
  | some b =>
    rw [e] at p1
    exact ⟨b, rfl, q b H1 ρ1 T1 o1 x1 p1⟩
theorem st_not (ha : PT X e1 (tT C c W a)) : PT X (.UnaryOp .Not e1 pos) (tT C c W (.not a)) := by
  refine PT.imp (pt_not ha) fun σ H Q ⟨H0, ρ0, η, ρ, T, o, p⟩ => ?_
  refine splitT (α := Ev.W) (F := fun w T => match w.b? with | some b => .ok (.v (.bl (!b))) T | none => .no) o p fun b H1 ρ1 T1 o1 x1 p1 => ?_
  obtain ⟨b', e, q⟩ := p1 H1 ρ1 o1 .refl
  cases e
  exact q
theorem se_and {rest : List Expr} (ha : PE X e1 (tE C c W a)) (hb : PE X (.BoolOp .And (e2 :: rest) pos) (tE C c W b)) : PE X (.BoolOp .And (e1 :: e2 :: rest) pos) (tE C c W (.and a b)) := by
  refine PE.imp (pe_and ha hb) fun σ H Q ⟨H0, ρ0, η, ρ, T, o, p⟩ => ?_
  refine split1 o p fun v w H1 ρ1 T1 o1 x1 r1 p1 => ?_
  cases e : w.b? with
  | none =>
    rw [e] at p1
    exact p1.elim
  | some k =>
    rw [e] at p1
    obtain ⟨rfl, _⟩ := bl_of r1 e
    refine ⟨k, rfl, ?_⟩
    cases k with
    | true =>
      exact ⟨H0, ρ0, η, ρ1, T1, o1, Po.mono (show Po C W H0 ρ0 σ η H1 ρ1 (evE c b η T1) _ from p1) fun w T2 H2 ρ2 _ _ x2 q v r => q v (r.back x1.keep o.hp.sto.lists fun a m => mem_pre x2.pre (mem_pre x1.pre m))⟩
    | false => exact p1 H1 ρ1 o1 .refl _ (.bl false)
theorem se_or {rest : List Expr} (ha : PE X e1 (tE C c W a)) (hb : PE X (.BoolOp .Or (e2 :: rest) pos) (tE C c W b)) : PE X (.BoolOp .Or (e1 :: e2 :: rest) pos) (tE C c W (.or a b)) := by
  refine PE.imp (pe_or ha hb) fun σ H Q ⟨H0, ρ0, η, ρ, T, o, p⟩ => ?_
  refine split1 o p fun v w H1 ρ1 T1 o1 x1 r1 p1 => ?_
  cases e : w.b? with
  | none =>
    rw [e] at p1
    exact p1.elim
  | some k =>
    rw [e] at p1
    obtain ⟨rfl, _⟩ := bl_of r1 e
    refine ⟨k, rfl, ?_⟩
    cases k with
    | true => exact p1 H1 ρ1 o1 .refl _ (.bl true)
    | false =>
      exact ⟨H0, ρ0, η, ρ1, T1, o1, Po.mono (show Po C W H0 ρ0 σ η H1 ρ1 (evE c b η T1) _ from p1) fun w T2 H2 ρ2 _ _ x2 q v r => q v (r.back x1.keep o.hp.sto.lists fun a m => mem_pre x2.pre (mem_pre x1.pre m))⟩
theorem st_and {rest : List Expr} (ha : PT X e1 (tT C c W a)) (hb : PW X (.BoolOp .And (e2 :: rest) pos) (tT C c W b)) : PW X (.BoolOp .And (e1 :: e2 :: rest) pos) (tT C c W (.and a b)) := by
  refine ⟨fun wh pins s σ H Q I ⟨H0, ρ0, η, ρ, T, o, p⟩ => (pw_and ha hb).run wh pins s σ H Q I ?_⟩
  refine splitT (α := Ev.W) (F := fun w T => match w.b? with | some k => (if k then evE c b η T else .ok (.v (.bl false)) T) | none => .no) o p fun k H1 ρ1 T1 o1 x1 p1 => ?_
  cases k with
  | true => exact ⟨H0, ρ0, η, ρ1, T1, o1, p1⟩
  | false =>
    obtain ⟨b', e, q⟩ := p1 H1 ρ1 o1 .refl
    cases e
    exact q
theorem st_or {rest : List Expr} (ha : PT X e1 (tT C c W a)) (hb : PW X (.BoolOp .Or (e2 :: rest) pos) (tT C c W b)) : PW X (.BoolOp .Or (e1 :: e2 :: rest) pos) (tT C c W (.or a b)) := by
  refine ⟨fun wh pins s σ H Q I ⟨H0, ρ0, η, ρ, T, o, p⟩ => (pw_or ha hb).run wh pins s σ H Q I ?_⟩
  refine splitT (α := Ev.W) (F := fun w T => match w.b? with | some k => (if k then .ok (.v (.bl true)) T else evE c b η T) | none => .no) o p fun k H1 ρ1 T1 o1 x1 p1 => ?_
  cases k with
  | false => exact ⟨H0, ρ0, η, ρ1, T1, o1, p1⟩
  | true =>
    obtain ⟨b', e, q⟩ := p1 H1 ρ1 o1 .refl
    cases e
    exact q
theorem se_ife (ht : PT X e1 (tT C c W a)) (ha : PE X e2 (tE C c W b)) (hb : PE X e3 (tE C c W d)) : PE X (.IfExp e1 e2 e3 pos) (tE C c W (.ife a b d)) := by
  refine PE.imp (pe_ifExp ht ha hb) fun σ H Q ⟨H0, ρ0, η, ρ, T, o, p⟩ => ?_
  refine splitT (α := Ev.W) (F := fun w T => match w.b? with | some k => (if k then evE c b η T else evE c d η T) | none => .no) o p fun k H1 ρ1 T1 o1 x1 p1 => ?_
  cases k with
  | true => exact ⟨H0, ρ0, η, ρ1, T1, o1, Po.mono (show Po C W H0 ρ0 σ η H1 ρ1 (evE c b η T1) _ from p1) fun w T2 H2 ρ2 _ _ x2 q v r => q v (r.back x1.keep o.hp.sto.lists fun a m => mem_pre x2.pre (mem_pre x1.pre m))⟩
  | false => exact ⟨H0, ρ0, η, ρ1, T1, o1, Po.mono (show Po C W H0 ρ0 σ η H1 ρ1 (evE c d η T1) _ from p1) fun w T2 H2 ρ2 _ _ x2 q v r => q v (r.back x1.keep o.hp.sto.lists fun a m => mem_pre x2.pre (mem_pre x1.pre m))⟩
theorem st_ife (ht : PT X e1 (tT C c W a)) (ha : PT X e2 (tT C c W b)) (hb : PT X e3 (tT C c W d)) : PT X (.IfExp e1 e2 e3 pos) (tT C c W (.ife a b d)) := by
  refine ⟨fun pins s σ H Q I ⟨H0, ρ0, η, ρ, T, o, p⟩ => ?_⟩
  show wpAny _ _ (isTrue e1 X.env (eval e1 X.env) >>= _) _ _ _
  have q := splitT (α := Ev.W) (R := fun k H1 => if k = true then tT C c W b σ H1 Q else tT C c W d σ H1 Q) (F := fun w T => match w.b? with | some k => (if k then evE c b η T else evE c d η T) | none => .no) o p fun k H1 ρ1 T1 o1 x1 p1 => by
    cases k with
    | true => exact ⟨H0, ρ0, η, ρ1, T1, o1, p1⟩
    | false => exact ⟨H0, ρ0, η, ρ1, T1, o1, p1⟩
  refine wpAny_bind (thn (ht.run pins s σ H _ I q) fun k s1 ⟨H1, I1, q1⟩ => ?_)
  cases k with
  | true => exact ha.run pins s1 σ H1 Q I1 q1
  | false => exact hb.run pins s1 σ H1 Q I1 q1
theorem se_ix (hK : X.K = C.K) (hp : PlainIx e2) (ha : PE X e1 (tE C c W a)) (hb : PE X e2 (tE C c W b)) : PE X (.Subscript e1 e2 pos) (tE C c W (.ix a b)) := by
  refine PE.imp (pe_ix (ix_all hK) ha hb hp) fun σ H Q ⟨H0, ρ0, η, ρ, T, o, p⟩ => ?_
  refine split2 o p fun v u wa wb H2 ρ2 T2 o2 x2 r1 r2 p2 => ?_
  cases e : ixW T2 wa wb with
  | none =>
    rw [e] at p2
    exact p2.elim
  | some w =>
    rw [e] at p2
    exact ⟨H0, ρ0, σ, η, ρ2, T2, wa, wb, w, H, H, o2, r1, r2, e, fin_of o.hp.sto.lists x2 p2⟩
end
end
end Ev
namespace Ev
open PySem PySem.Spec PyProof.Rows L2
section
variable {C : Cfg} {c : Call} {W : WX} {H H0 : Hp} {ρ ρ0 : List Addr} {σ : L2.St} {η : En} {T : Sto}
/-- kept data's split -/
theorem splitD {α : Type} {a : E} {F : D → Sto → Re α} {k : α → Sto → Hp → List Addr → Prop} {R : VK} (o : OkC C H0 ρ0 H ρ σ η T) (p : Po C W H0 ρ0 σ η H ρ ((evE c a η T).bind fun w T => match w.st with
      | some d => F d T
      | none => .no) k)
    (q : ∀ v d H1 ρ1 T1, OkC C H0 ρ0 H1 ρ1 σ η T1 → Ext H ρ H1 ρ1 → RepC C H1 ρ1 v d → Po C W H0 ρ0 σ η H1 ρ1 (F d T1) k → R v H1) : tD C c W a σ H R := by
  refine ⟨H0, ρ0, η, ρ, T, o, (Po.bind o.hp.sto.lists p).mono fun w T1 H1 ρ1 ev _ _ ⟨o1, x1, p1⟩ => ?_⟩
  rw [ev] at p
  cases e : w.st with
  | none =>
    rw [e] at p1
    exact p1.elim
  | some d =>
    have p2 : Po C W H0 ρ0 σ η H ρ (F d T1) k := by
      have p3 : Po C W H0 ρ0 σ η H ρ (match w.st with | some d => F d T1 | none => .no) k := p
      rw [e] at p3
      exact p3
    exact ⟨d, rfl, fun v H2 o2 x2 r => q v d H2 ρ1 T1 o2 x2 r (Po.on o.hp.sto.lists x2 p2)⟩
section
variable {X : Cx} {e1 e2 : Expr} {es : List Expr} {a b : E} {as : List E} {pos : Pos}
theorem starOf {e : Expr} {es : List Expr} {env : Env} (h : ∀ x p, e ≠ .Starred x p) : starEach (e :: es) env = (false, eval e env) :: starEach es env := by
  cases e <;> first | rfl | exact absurd rfl (h _ _)
theorem sa_nil : PA X [] (tA C c W []) := PA.imp pa_nil fun σ H Q ⟨H0, ρ0, η, ρ, T, o, p⟩ => p H ρ o .refl [] .nil
theorem sa_cons (hs : ∀ x p, e1 ≠ .Starred x p) (ha : PE X e1 (tE C c W a)) (hb : PA X es (tA C c W as)) : PA X (e1 :: es) (tA C c W (a :: as)) := by
  refine PA.imp (pa_cons (PE.lockd ha) hb (starOf hs)) fun σ H Q ⟨H0, ρ0, η, ρ, T, o, p⟩ => ?_
  refine splitD (F := fun d T => (evDs c as η T).bind fun ds T => .ok (d :: ds) T) o p fun v d H1 ρ1 T1 o1 x1 r p1 => ?_
  refine ⟨H0, ρ0, η, ρ1, T1, o1, (Po.bind o1.hp.sto.lists p1).mono fun ds T2 H2 ρ2 _ _ _ ⟨o2, x2, p2⟩ vs t => ?_⟩
  exact p2 H2 ρ2 o2 .refl (v :: vs) (.cons (Rep.mono o1.hp.sto.lists x2.keep x2.pre r) t)
theorem evDs_len : ∀ {as : List E} {η : En} {T : Sto} {ds : List D} {T1 : Sto}, evDs c as η T = .ok ds T1 → ds.length = as.length
  | [], η, T, ds, T1, e => by
    rw [evDs] at e
    cases e
    rfl
  | a :: as, η, T, ds, T1, e => by
    rw [evDs] at e
    cases e1 : evE c a η T with
    | ok w T2 =>
      rw [e1, Re.bind_ok] at e
      split at e
      · cases e2 : evDs c as η T2 with
        | ok ds2 T3 =>
          rw [e2, Re.bind_ok] at e
          cases e
          exact congrArg Nat.succ (evDs_len e2)
        | ex cc pl T3 =>
          rw [e2] at e
          cases e
        | no =>
          rw [e2] at e
          cases e
      · cases e
    | ex cc pl T3 =>
      rw [e1] at e
      cases e
    | no =>
      rw [e1] at e
      cases e
theorem se_tup {k : Nat} (hl : as.length ≤ LL) (ha : PA X es (tA C c W as)) : PE X (.Tuple es k pos) (tE C c W (.tup as)) := by
  refine PE.imp (pe_tup ha) fun σ H Q ⟨H0, ρ0, η, ρ, T, o, p⟩ => ?_
  refine ⟨H0, ρ0, η, ρ, T, o, (Po.bind o.hp.sto.lists p).mono fun ds T1 H1 ρ1 ev _ _ ⟨o1, x1, p1⟩ vs t => ?_⟩
  have l := t.len
  rw [evDs_len ev] at l
  exact ⟨Nat.le_trans (by omega) LLs, fun q n => (fin_of o.hp.sto.lists x1 p1).tup o1 n t⟩
theorem se_lst (hl : as.length ≤ LL) (ha : PA X es (tA C c W as)) : PE X (.List es pos) (tE C c W (.lst as)) := by
  refine PE.imp (pe_lst ha) fun σ H Q ⟨H0, ρ0, η, ρ, T, o, p⟩ => ?_
  refine ⟨H0, ρ0, η, ρ, T, o, (Po.bind o.hp.sto.lists p).mono fun ds T1 H1 ρ1 ev _ _ ⟨o1, x1, p1⟩ vs t => ?_⟩
  have l := t.len
  rw [evDs_len ev] at l
  exact ⟨Nat.le_trans (by omega) LLs, fun q n => (fin_of o.hp.sto.lists x1 p1).lst o1 n t⟩
theorem se_var {i : Nat} {x : Str} (hN : X.N[i]? = some x) (hv : Vis X.env.scope x) (hd : (x == ("__debug__" : Str)) = false) (hcd : (x == ("__classdict__" : Str)) = false) : PE X (.Name x pos) (tE C c W (.var i)) := by
  refine PE.imp (pe_var hN hv hd hcd) fun σ H Q ⟨H0, ρ0, η, ρ, T, o, p⟩ => ?_
  have s := o.slot i
  rw [evE] at p
  cases e : η.get i with
  | no =>
    rw [e] at p
    exact p.elim
  | val d =>
    rw [e] at p s
    obtain ⟨v, e1, r⟩ := s
    exact ⟨v, e1, p H ρ o .refl v r⟩
  | own xs =>
    rw [e] at p s
    obtain ⟨z, vs, e1, e2, t, n, _⟩ := s
    exact ⟨.ref z, e1, p H ρ o .refl (.ref z) ⟨z, vs, rfl, e2, t, n, fun f => nomatch f⟩⟩
  | err cc pl =>
    rw [e] at p
    exact p.elim
theorem se_cst {v : V} {d : D} (h : PE X e1 (tC v)) (r : ∀ H ρ, RepC C H ρ v d) : PE X e1 (tE C c W (.cst d)) :=
  PE.imp h fun σ H Q ⟨H0, ρ0, η, ρ, T, o, p⟩ => p H ρ o .refl v (r H ρ)
theorem se_gint {x : Nat} {i : Int} (h : PE X e1 (tC (.int i))) : PE X e1 (tE C c W (.gint x i)) :=
  PE.imp h fun σ H Q ⟨H0, ρ0, η, ρ, T, o, p⟩ => p H ρ o .refl _ (.int i)
theorem se_gfn {f : Nat} (hf : f < 4096) (h : PE X e1 (tC (.ref (C.G f)))) : PE X e1 (tE C c W (.gfn f)) :=
  PE.imp h fun σ H Q ⟨H0, ρ0, η, ρ, T, o, p⟩ => p H ρ o .refl _ (.fn f hf)
/-! ### parts -/
def tOp' (C : Cfg) (c : Call) (W : WX) (e : Option E) : TO := fun σ H Q => ∃ H0 ρ0 η ρ T, OkC C H0 ρ0 H ρ σ η T ∧ Po C W H0 ρ0 σ η H ρ (evO c e η T) fun i T1 H1 ρ1 => Q i H1
theorem PO.imp {e : Option Expr} {t t' : TO} (h : PO X e t) (m : ∀ σ H Q, t' σ H Q → t σ H Q) : PO X e t' := ⟨fun pins s σ H Q I q => h.run pins s σ H Q I (m σ H Q q)⟩
theorem so_none : PO X none (tOp' C c W none) := PO.imp po_none fun σ H Q ⟨H0, ρ0, η, ρ, T, o, p⟩ => p H ρ o .refl
theorem so_some (ha : PE X e1 (tE C c W a)) : PO X (some e1) (tOp' C c W (some a)) := by
  refine PO.imp (po_some ha) fun σ H Q ⟨H0, ρ0, η, ρ, T, o, p⟩ => ?_
  refine ⟨H0, ρ0, η, ρ, T, o, (Po.bind o.hp.sto.lists p).mono fun w T1 H1 ρ1 ev _ _ ⟨o1, x1, p1⟩ v r => ?_⟩
  cases e : w.i? with
  | none =>
    rw [e] at p1
    exact p1.elim
  | some i =>
    rw [e] at p1
    obtain ⟨rfl, _⟩ := int_of r e
    exact ⟨i, rfl, p1 H1 ρ1 o1 .refl⟩
theorem se_sl {lo hi : Option Expr} {lo' hi' : Option E} {p2 : Pos} (hK : X.K = C.K) (ha : PE X e1 (tE C c W a)) (hl : PO X lo (tOp' C c W lo')) (hh : PO X hi (tOp' C c W hi')) : PE X (.Subscript e1 (.Slice lo hi none p2) pos) (tE C c W (.sl a lo' hi')) := by
  refine PE.imp (pe_slice (sl_all hK) ha hl hh) fun σ H Q ⟨H0, ρ0, η, ρ, T, o, p⟩ => ?_
  refine split1 o p fun v w H1 ρ1 T1 o1 x1 r1 p1 => ?_
  refine ⟨H0, ρ0, η, ρ1, T1, o1, (Po.bind o1.hp.sto.lists p1).mono fun l T2 H2 ρ2 _ _ _ ⟨o2, x2, p2⟩ => ?_⟩
  refine ⟨H0, ρ0, η, ρ2, T2, o2, (Po.bind o2.hp.sto.lists p2).mono fun h T3 H3 ρ3 _ _ _ ⟨o3, x3, p3⟩ => ?_⟩
  have x23 := x2.trans o1.hp.sto.lists x3
  cases e : slW T3 w l h with
  | none =>
    rw [e] at p3
    exact p3.elim
  | some w' =>
    rw [e] at p3
    exact ⟨H0, ρ0, σ, η, ρ3, T3, w, w', H, o3, r1.mono o1.hp.sto.lists x23, e, fin_of o.hp.sto.lists (x1.trans o.hp.sto.lists x23) p3⟩
theorem se_bits {apos : Pos} (hb : attributeBase e1 "bit_length" X.env (eval e1 X.env) = eval e1 X.env) (hl : (apos.endLine == pos.line) = true) (ha : PE X e1 (tE C c W a)) : PE X (.Call (.Attribute e1 "bit_length" apos) [] [] pos) (tE C c W (.bitlen a)) := by
  refine PE.imp (pe_bits ha hb hl) fun σ H Q ⟨H0, ρ0, η, ρ, T, o, p⟩ => ?_
  refine split1 o p fun v w H1 ρ1 T1 o1 x1 r1 p1 => ?_
  cases e : w.i? with
  | none =>
    rw [e] at p1
    exact p1.elim
  | some i =>
    rw [e] at p1
    obtain ⟨rfl, _⟩ := int_of r1 e
    exact ⟨i, rfl, p1 H1 ρ1 o1 .refl _ (.int _)⟩
/-- a shared list begins: nothing runs -/
theorem se_share (ha : PE X e1 (tE C c W a)) : PE X e1 (tE C c W (.share a)) := by
  refine PE.imp ha fun σ H Q ⟨H0, ρ0, η, ρ, T, o, p⟩ => ?_
  refine ⟨H0, ρ0, η, ρ, T, o, (Po.bind o.hp.sto.lists p).mono fun w T1 H1 ρ1 ev _ _ ⟨o1, x1, p1⟩ v r => ?_⟩
  rw [evE, ev] at p
  cases w with
  | v d => exact (show False from p1).elim
  | l f xs =>
    cases f with
    | false => exact (show False from p1).elim
    | true =>
      obtain ⟨z, vs, rfl, hz, t, nz, fz⟩ := r
      have n0 := (Ok.fresh0 (σ := σ) (η := η) o.hp (fz rfl))
      have pr : ∀ (n : Nat) (b : Addr), ρ1[n]? = some b → (ρ1 ++ [z])[n]? = some b := fun n b e => by
        rw [List.getElem?_append_left (List.getElem?_eq_some_iff.mp e).1]
        exact e
      have x2 : Ext H1 ρ1 H1 (ρ1 ++ [z]) → True := fun _ => trivial
      have x3 : Ext H ρ H1 (ρ1 ++ [z]) := ⟨x1.keep, fun n b e => pr n b (x1.pre n b e), fun b m => by
        rcases List.mem_append.mp m with m | m
        · exact x1.new b m
        · rw [List.mem_singleton.mp m]
          exact .inr (fz rfl)⟩
      have st : StoOk C.K C.G H1 (ρ1 ++ [z]) (T1 ++ [xs]) := by
        refine ⟨by simp [o1.hp.sto.len], ?_, fun n b ys e1 e2 => ?_⟩
        · rw [List.nodup_append]
          refine ⟨o1.hp.sto.nd, by simp, fun b hb d hd e => ?_⟩
          rw [List.mem_singleton.mp hd] at e
          exact nz (by rw [← e]; exact hb)
        · by_cases hn : n < ρ1.length
          · rw [List.getElem?_append_left hn] at e1
            rw [List.getElem?_append_left (by rw [← o1.hp.sto.len]; exact hn)] at e2
            obtain ⟨us, q1, q2⟩ := o1.hp.sto.at_ n b ys e1 e2
            exact ⟨us, q1, q2.firm .refl pr⟩
          · have hn2 : n = ρ1.length := by
              have := (List.getElem?_eq_some_iff.mp e1).1
              simp at this
              omega
            subst hn2
            rw [List.getElem?_append_right (Nat.le_refl _)] at e1
            rw [List.getElem?_append_right (by rw [o1.hp.sto.len]; exact Nat.le_refl _)] at e2
            simp at e1
            simp [o1.hp.sto.len] at e2
            subst e1 e2
            exact ⟨vs, hz, t.firm .refl pr⟩
      have p4 : Po C W H0 ρ0 σ η H ρ (.ok (Ev.W.v (.loc T1.length)) (T1 ++ [xs])) _ := p
      refine p4 H1 (ρ1 ++ [z]) (o.ext x3 st) x3 (.ref z) (show RepC C _ _ _ _ from .loc ?_)
      rw [← o1.hp.sto.len, List.getElem?_append_right (Nat.le_refl _)]
      simp
end
end
end Ev
namespace Ev
open PySem PySem.Spec PyProof.Rows L2
/-- a def's promise by the evaluator; n: its parameters -/
def spF (C : Cfg) (c : Call) (f n : Nat) : Sp := fun vs H Q Ex => ∃ ds ρ T, RepsC C H ρ vs ds ∧ StoOk C.K C.G H ρ T ∧ vs.length = n ∧ (match c f ds T with
  | .ok d T1 => ∀ v H1 ρ1, StoOk C.K C.G H1 ρ1 T1 → Ext H ρ H1 ρ1 → RepC C H1 ρ1 v d → Q v H1
  | .ex cc pl T1 => ∀ cls dd H1 ρ1, StoOk C.K C.G H1 ρ1 T1 → Ext H ρ H1 ρ1 → C.ex H1 ρ1 cls dd cc pl → Ex cls dd H1
  | .no => False)
/-- the names of a call's keywords fit the parameters: the j-th parameter is the perm[j]-th of what is written -/
def kwOk (ps : List Str) (np : Nat) (ks : List Str) (perm : List Nat) : Bool :=
  decide (perm.length = ps.length) && decide (np + ks.length = ps.length) && decide (ks.Nodup) && decide (ps.Nodup) && (ks.all fun k => (ps.drop np).contains k) && (List.range ps.length).all fun j => match perm[j]? with
    | some i => if i < np then decide (i = j) else decide (j ≥ np) && decide (ks[i - np]? = ps[j]?)
    | none => false
/-- what a context holds of the def f -/
structure FnAt (C : Cfg) (c : Call) (k : Nat) (X : Cx) (f : Nat) (fd : Fd) : Prop where
  at_ : X.mg fd.name = some (.ref (C.G f))
  kp : PySem.W.keepIn X.K (.ref (C.G f)) = true
  ok : ∃ fdat, FnOk X.prog X.w X.K X.mg X.base (L2.CX X.prog X.w) k (C.G f) fdat fd.ps (spF C c f fd.ps.length) ∧ Binds X.K fdat fd.ps [] ∧
    ∀ (np : Nat) (ks : List Str) (perm : List Nat), kwOk fd.ps np ks perm = true → ∀ (us ws zs : List Value), us.length = np → ws.length = ks.length → perm.mapM (fun j => (us ++ ws)[j]?) = some zs →
      ∀ s : Shared, X.K.In s.heap → BindsTo s fdat ⟨us, ks.zip ws⟩ (fd.ps.zip zs)
  len : ∀ ds T, ds.length ≠ fd.ps.length → c f ds T = .no
/-- a class's value -/
def clsV (G : Nat → Addr) (i : Nat) (cd : Cl) : Value := match cd.bt with
  | some n => .type n
  | none => .ref (G (5000 + i))
/-- what is known of a class -/
structure ClsAt (G : Nat → Addr) (k : Nat) (cl : List Cl) (j : Nat) (cd : Cl) (P : Program) (w : World) (K : PySem.W.Frag) (mg : Str → Option Value) (base : Heap) : Prop where
  own : cd.bt = none → mg cd.name = some (.ref (G (5000 + j)))
  blt : ∀ n, cd.bt = some n → mg cd.name = none ∧ bootBuiltins cd.name = some (.type n)
  nm : (cd.name == ("__debug__" : Str)) = false ∧ cd.name ≠ "__name__"
  sub : cd.bt = none → ∀ i ci, cl[i]? = some ci → PySem.W.kitOne K (.ref (G (5000 + j))) (clsV G i ci) = some (cd.sup.contains i) ∧ PySem.W.exmOne K (.ref (G (5000 + j))) (clsV G i ci) = some (cd.sup.contains i)
  isc : cd.bt = none → XR.IsC K (G (5000 + j))
  xf : cd.bt = none → XfC K (G (5000 + j)) ∧ ∀ ci, ci ∈ cl → ∀ f, ci.fld = some f → PySem.W.findIn K (.ref (G (5000 + j))) f = some none
  mk0 : cd.ini = true → cd.fld = none → ∃ fI fd sf, OexC K (G (5000 + j)) ∧ PySem.W.findIn K (.ref (G (5000 + j))) "__init__" = some (some (.ref fI)) ∧ PySem.W.typeIn K (.ref fI) = some (.type "function") ∧ FnOk P w K mg base (L2.CX P w) (k - 1) fI fd [sf] (XR.sp0 (G (5000 + j))) ∧ Binds K fd [sf] []
  mk1 : cd.ini = true → ∀ f, cd.fld = some f → ∃ fI fd sf x, OexC K (G (5000 + j)) ∧ PySem.W.findIn K (.ref (G (5000 + j))) "__init__" = some (some (.ref fI)) ∧ PySem.W.typeIn K (.ref fI) = some (.type "function") ∧ FnOk P w K mg base (L2.CX P w) (k - 1) fI fd [sf, x] (XR.sp1 (G (5000 + j)) f) ∧ Binds K fd [sf, x] []
/-- what is known of the error that an except suite holds -/
structure ErAt (C : Cfg) (X : Cx) (cl : List Cl) (nm : Str) : Prop where
  ex : ∃ (X0 : Cx) (a : Addr) (oe : Obj) (d : Option Addr) (pn : List (Addr × Obj)) (cd : Cl), X = X0.suite a ((a, oe) :: pn) ∧ C.G 4096 = a ∧ Zc (.ref (C.G (5000 + C.G 4100))) d oe ∧ (∃ vs, oe.data = .fields vs) ∧ cl[C.G 4100]? = some cd ∧ cd.bt = none ∧ d = if C.G 4099 = 0 then none else some (C.G 4097)
/-- how an error lies: its class, its own dict, by the number of its class and what it keeps -/
def exR (K : PySem.W.Frag) (G : Nat → Addr) (cl : List Cl) (H : Hp) (ρ : List Addr) (cls : Value) (d : Option Addr) (cc : Nat) (pl : List D) : Prop :=
  ∃ cd, cl[cc]? = some cd ∧ cd.bt = none ∧ cls = .ref (G (5000 + cc)) ∧ ((pl = [] ∧ d = none) ∨ ∃ f x dd fs v, pl = [.str f, x] ∧ d = some dd ∧ H dd = some (.xd fs) ∧ fs.lookup f = some v ∧ Rep K G H ρ v x)
/-- the context -/
structure Cxt (C : Cfg) (c : Call) (k : Nat) (bn : Bn) (W : WX) (X : Cx) : Prop where
  hK : X.K = C.K
  nd : X.N.Nodup
  room : bn.er = none → Room k X.A
  hu : X.A.units + 64 < cLine
  calm : bn.er = none → X.calm = true
  k2 : 2 ≤ k
  tk : Takes X W
  free : ∀ x, x ∈ bn.l → X.mg x = none
  fns : ∀ f fd, C.P f = some fd → FnAt C c k X f fd
  cls : ∀ j cd, bn.cl[j]? = some cd → ClsAt C.G k bn.cl j cd X.prog X.w X.K X.mg X.base
  er : ∀ nm, bn.er = some nm → ErAt C X bn.cl nm
  hex : bn.er = none → ∀ H ρ cls d cc pl, C.ex H ρ cls d cc pl ↔ exR C.K C.G bn.cl H ρ cls d cc pl
section
variable {C : Cfg} {c : Call} {W : WX} {H H0 : Hp} {ρ ρ0 : List Addr} {σ : L2.St} {η : En} {T : Sto} {k : Nat} {bn : Bn}
section
variable {X : Cx} {e1 e2 : Expr} {es : List Expr} {a b : E} {as : List E} {pos p : Pos} {x : Str}
/-- into a def -/
theorem call_in {f n : Nat} {ds : List D} {vs : List V} {Q : VK} (o : OkC C H0 ρ0 H ρ σ η T) (t : RepsC C H ρ vs ds) (hn : vs.length = n)
    (q : Po C W H0 ρ0 σ η H ρ ((c f ds T).bind fun d T => .ok (Ev.W.v d) T) fun w T1 H1 ρ1 => ∀ v, RepWC C H H1 ρ1 v w → Q v H1) : spF C c f n vs H Q (WE W σ) := by
  refine ⟨ds, ρ, T, t, o.hp.sto, hn, ?_⟩
  cases e : c f ds T with
  | ok d T1 =>
    rw [e] at q
    exact fun v H1 ρ1 s x r => q H1 ρ1 (o.ext x s) x v r
  | ex cc pl T1 =>
    rw [e] at q
    exact fun cls dd H1 ρ1 s x r => q cls dd H1 ρ1 (o.ext x s) x r
  | no =>
    rw [e] at q
    exact q
theorem no_of {α : Type} {r : Re α} {kk : α → Sto → Hp → List Addr → Prop} (e : r = .no) (q : Po C W H0 ρ0 σ η H ρ r kk) : False := by
  rw [e] at q
  exact q
theorem noStar : ∀ {es : List Expr} {env : Env} (pos : Pos), (∀ e, e ∈ es → ∀ x p, e ≠ .Starred x p) → (backTo pos (starEach es env)).any (·.1) = false
  | [], env, pos, h => rfl
  | e :: es, env, pos, h => by
    rw [starOf (h e List.mem_cons_self)]
    show (false || (backTo pos (starEach es env)).any (·.1)) = false
    rw [Bool.false_or]
    exact noStar pos fun e' m => h e' (List.mem_cons_of_mem _ m)
theorem se_call {f : Nat} {fd : Fd} (h : Cxt C c k bn W X) (hn : bn.er = none) (hf : C.P f = some fd) (hg : Gl X fd.name) (hdb : (fd.name == ("__debug__" : Str)) = false) (hs : ∀ e, e ∈ es → ∀ x p, e ≠ .Starred x p) (hl : es.length = fd.ps.length) (hl2 : as.length = es.length) (ha : PA X es (tA C c W as)) :
    PE X (.Call (.Name fd.name p) es [] pos) (tE C c W (.call f as)) := by
  have F := h.fns f fd hf
  obtain ⟨fdat, ok, bd, _⟩ := F.ok
  refine ⟨fun pins s σ H Q I ⟨H0, ρ0, η, ρ, T, o, p⟩ => ?_⟩
  refine wpAny_Call_Name_kw (ld_glob I hg F.at_ ?_ hdb)
  have q : tA C c W as σ H fun vs H1 => spF C c f fd.ps.length vs H1 Q (WE W σ) := by
    refine ⟨H0, ρ0, η, ρ, T, o, (Po.bind o.hp.sto.lists p).mono fun ds T1 H1 ρ1 ev _ _ ⟨o1, x1, p1⟩ vs t => ?_⟩
    refine call_in o1 t ?_ (p1.mono fun w T2 H2 ρ2 _ _ x2 q v r => q v (r.back x1.keep o.hp.sto.lists fun a m => mem_pre x2.pre (mem_pre x1.pre m)))
    rw [t.len, evDs_len ev, hl2, hl]
  cases es with
  | nil =>
    refine PySem.W.callWith_K0 I.kIn F.kp ?_
    have r := ha.run pos pins s σ H _ I q
    -- no argument
    have e0 : starEach ([] : List Expr) X.env = [] := rfl
    cases as with
    | nil =>
      obtain ⟨H0, ρ0, η, ρ, T, o, q⟩ := q
      exact run_fnS ok (h.room hn) bd (passAt h.tk σ) I .nil (q H ρ o .refl [] .nil)
    | cons a as => cases hl2
  | cons e es =>
    refine PySem.W.callWith_K (h₀ := X.base) I.ok.mod.kin F.kp (thn (ha.run pos pins s σ H _ I q) fun us s1 ⟨vs, H1, I1, r, q⟩ => ⟨I1.kIn, ?_⟩) (starOf (hs e List.mem_cons_self)) (noStar pos fun e' m => hs e' (List.mem_cons_of_mem _ m))
    exact run_fnS ok (h.room hn) bd (passAt h.tk σ) I1 r q
/-! ### keywords -/
theorem sk_nil : PK X [] (tA C c W []) := ⟨fun _ _ _ _ H Q I ⟨H0, ρ0, η, ρ, T, o, p⟩ => wpAny_evalAll_nil ⟨[], H, I, .nil, p H ρ o .refl [] .nil⟩⟩
theorem PK.imp {kws : List Keyword} {t t' : TA} (h : PK X kws t) (m : ∀ σ H Q, t' σ H Q → t σ H Q) : PK X kws t' := ⟨fun pos pins s σ H Q I q => h.run pos pins s σ H Q I (m σ H Q q)⟩
theorem sk_cons {kws : List Keyword} {nm : Option Str} {kp : Pos} (ha : PE X e1 (tE C c W a)) (hb : PK X kws (tA C c W as)) : PK X (⟨nm, e1, kp⟩ :: kws) (tA C c W (a :: as)) := by
  refine PK.imp (pk_cons (PE.lockd ha) hb) fun σ H Q ⟨H0, ρ0, η, ρ, T, o, p⟩ => ?_
  refine splitD (F := fun d T => (evDs c as η T).bind fun ds T => .ok (d :: ds) T) o p fun v d H1 ρ1 T1 o1 x1 r p1 => ?_
  refine ⟨H0, ρ0, η, ρ1, T1, o1, (Po.bind o1.hp.sto.lists p1).mono fun ds T2 H2 ρ2 _ _ _ ⟨o2, x2, p2⟩ vs t => ?_⟩
  exact p2 H2 ρ2 o2 .refl (v :: vs) (.cons (Rep.mono o1.hp.sto.lists x2.keep x2.pre r) t)
theorem evDs_app : ∀ {as bs : List E} {η : En} {T : Sto}, evDs c (as ++ bs) η T = (evDs c as η T).bind fun ds T => (evDs c bs η T).bind fun es T => .ok (ds ++ es) T
  | [], bs, η, T => by
    rw [List.nil_append, evDs, Re.bind_ok]
    cases evDs c bs η T <;> rfl
  | a :: as, bs, η, T => by
    rw [List.cons_append, evDs, evDs]
    cases evE c a η T with
    | ok w T1 =>
      rw [Re.bind_ok, Re.bind_ok]
      cases w.st with
      | none => rfl
      | some d =>
        show (evDs c (as ++ bs) η T1).bind _ = _
        rw [evDs_app]
        cases evDs c as η T1 with
        | ok ds T2 =>
          simp only [Re.bind_ok]
          cases evDs c bs η T2 <;> rfl
        | ex cc pl T2 => rfl
        | no => rfl
    | ex cc pl T2 => rfl
    | no => rfl
theorem mapM_vals {vs : List V} {us : List Value} (r : Vals vs us) : ∀ {perm : List Nat} {zs : List V}, perm.mapM (fun j => vs[j]?) = some zs → ∃ ws, perm.mapM (fun j => us[j]?) = some ws ∧ Vals zs ws
  | [], zs, e => by
    cases (show some [] = some zs from e)
    exact ⟨[], rfl, .nil⟩
  | j :: perm, zs, e => by
    rw [List.mapM_cons] at e
    cases e1 : vs[j]? with
    | none =>
      rw [e1] at e
      cases e
    | some v =>
      rw [e1] at e
      cases e2 : perm.mapM (fun j => vs[j]?) with
      | none =>
        rw [e2] at e
        cases e
      | some zs' =>
        rw [e2] at e
        cases (show some (v :: zs') = some zs from e)
        obtain ⟨u, eu, ru⟩ := r.get e1
        obtain ⟨ws, e3, r3⟩ := mapM_vals r e2
        refine ⟨u :: ws, ?_, .cons ru r3⟩
        rw [List.mapM_cons, eu, e3]
        rfl
theorem mapM_reps {vs : List V} {ds : List D} (r : RepsC C H ρ vs ds) : ∀ {perm : List Nat} {zs : List D}, perm.mapM (fun j => ds[j]?) = some zs → ∃ ws, perm.mapM (fun j => vs[j]?) = some ws ∧ RepsC C H ρ ws zs
  | [], zs, e => by
    cases (show some [] = some zs from e)
    exact ⟨[], rfl, .nil⟩
  | j :: perm, zs, e => by
    rw [List.mapM_cons] at e
    cases e1 : ds[j]? with
    | none =>
      rw [e1] at e
      cases e
    | some v =>
      rw [e1] at e
      cases e2 : perm.mapM (fun j => ds[j]?) with
      | none =>
        rw [e2] at e
        cases e
      | some zs' =>
        rw [e2] at e
        cases (show some (v :: zs') = some zs from e)
        obtain ⟨u, eu, ru⟩ := r.at e1
        obtain ⟨ws, e3, r3⟩ := mapM_reps r e2
        refine ⟨u :: ws, ?_, .cons ru r3⟩
        rw [List.mapM_cons, eu, e3]
        rfl
theorem mapM_len {α : Type} {l : List α} : ∀ {perm : List Nat} {zs : List α}, perm.mapM (fun j => l[j]?) = some zs → zs.length = perm.length
  | [], zs, e => by
    cases (show some [] = some zs from e)
    rfl
  | j :: perm, zs, e => by
    rw [List.mapM_cons] at e
    cases e1 : l[j]? with
    | none =>
      rw [e1] at e
      cases e
    | some v =>
      rw [e1] at e
      cases e2 : perm.mapM (fun j => l[j]?) with
      | none =>
        rw [e2] at e
        cases e
      | some zs' =>
        rw [e2] at e
        cases (show some (v :: zs') = some zs from e)
        exact congrArg Nat.succ (mapM_len e2)
theorem run_fnKw {pins : List (Addr × Obj)} {s : Shared} {Q : VK} {us ws zs : List Value} {vs : List V} {f : Nat} {fd : Fd} {fdat : FuncData} {ks : List Str} (h : Cxt C c k bn W X) (hn : bn.er = none)
    (F : FnOk X.prog X.w X.K X.mg X.base (L2.CX X.prog X.w) k (C.G f) fdat fd.ps (spF C c f fd.ps.length)) (hb : BindsTo s fdat ⟨us, ks.zip ws⟩ (fd.ps.zip zs)) (I : Inv X pins σ H s) (r : Vals vs zs) (q : spF C c f fd.ps.length vs H Q (WE W σ)) :
    wpAny (model X.prog X.w) X.A (PySem.call (.ref (C.G f)) us (ks.zip ws)) (EP X pins σ Q) X.xe s := by
  refine wpAny_call (codeAny_mono (F.run X.A X.stack s H ⟨us, ks.zip ws⟩ zs vs Q (WE W σ) (h.room hn) I.env0 hb r q) fun r s' hq => ?_)
  cases r with
  | error e => exact passAt h.tk σ pins H s e s' I hq
  | ok fl =>
    cases fl with
    | ret u => exact I.after hq
    | next => exact False.elim hq
    | brk => exact False.elim hq
    | cont => exact False.elim hq
theorem kw_all : ∀ {kws : List Keyword} {env : Env} (pos : Pos), (∀ z, z ∈ kws → z.arg.isSome = true) → (backToKw pos (keywordEach kws env)).all (·.1.isSome) = true
  | [], _, _, _ => rfl
  | ⟨nm, v, kp⟩ :: kws, env, pos, h => by
    show (nm.isSome && (backToKw pos (keywordEach kws env)).all (·.1.isSome)) = true
    rw [kw_all pos fun z m => h z (List.mem_cons_of_mem _ m), Bool.and_true]
    exact h _ List.mem_cons_self
theorem kw_none : ∀ {kws : List Keyword} {env : Env} (pos : Pos), (∀ z, z ∈ kws → z.arg.isSome = true) → (backToKw pos (keywordEach kws env)).any (·.1.isNone) = false
  | [], _, _, _ => rfl
  | ⟨nm, v, kp⟩ :: kws, env, pos, h => by
    show (nm.isNone || (backToKw pos (keywordEach kws env)).any (·.1.isNone)) = false
    rw [kw_none pos fun z m => h z (List.mem_cons_of_mem _ m), Bool.or_false]
    have := h _ List.mem_cons_self
    cases nm with
    | none => cases this
    | some x => rfl
theorem kw_names : ∀ {kws : List Keyword} {env : Env} (pos : Pos), (backToKw pos (keywordEach kws env)).filterMap (·.1) = kws.filterMap (·.arg)
  | [], _, _ => rfl
  | ⟨nm, v, kp⟩ :: kws, env, pos => by
    show List.filterMap _ ((nm, _) :: backToKw pos (keywordEach kws env)) = _
    cases nm with
    | none => exact kw_names pos
    | some x => exact congrArg (x :: ·) (kw_names pos)
/-- f(e, .., k = v, ..) -/
theorem se_callK {f np : Nat} {fd : Fd} {kws : List Keyword} {bs : List E} {perm : List Nat} (h : Cxt C c k bn W X) (hn : bn.er = none) (hf : C.P f = some fd) (hg : Gl X fd.name) (hdb : (fd.name == ("__debug__" : Str)) = false) (hs : ∀ e, e ∈ es → ∀ x p, e ≠ .Starred x p)
    (hk : kwOk fd.ps np (kws.filterMap (·.arg)) perm = true) (hkn : ∀ z, z ∈ kws → z.arg.isSome = true) (hl : es.length = np) (hl2 : as.length = es.length) (hl3 : bs.length = kws.length) (ha : PA X es (tA C c W as)) (hb : PK X kws (tA C c W bs)) :
    PE X (.Call (.Name fd.name p) es kws pos) (tE C c W (.callK f np perm (as ++ bs))) := by
  have F := h.fns f fd hf
  obtain ⟨fdat, ok, _, kb⟩ := F.ok
  refine ⟨fun pins s σ H Q I ⟨H0, ρ0, η, ρ, T, o, p⟩ => ?_⟩
  refine wpAny_Call_Name_kw (ld_glob I hg F.at_ ?_ hdb)
  have hkl : (kws.filterMap (·.arg)).length = kws.length := by
    clear hk hb hl3 p
    induction kws with
    | nil => rfl
    | cons z kws ih =>
      have h1 := hkn z List.mem_cons_self
      obtain ⟨nm, v, kp⟩ := z
      cases nm with
      | none => cases h1
      | some y => exact congrArg Nat.succ (ih fun z m => hkn z (List.mem_cons_of_mem _ m))
  rw [evE, evDs_app] at p
  -- what the arguments and the keywords lead to
  have q : tA C c W as σ H fun vs H1 => tA C c W bs σ H1 fun us H2 => vs.length = as.length ∧ us.length = bs.length ∧ ∃ zs, perm.mapM (fun j => (vs ++ us)[j]?) = some zs ∧ spF C c f fd.ps.length zs H2 Q (WE W σ) := by
    have p0 : Po C W H0 ρ0 σ η H ρ ((evDs c as η T).bind fun ds T => (evDs c bs η T).bind fun es T => match permD perm (ds ++ es) with
      | some ds => (c f ds T).bind fun d T => .ok (Ev.W.v d) T
      | none => .no) fun w T1 H1 ρ1 => ∀ v, RepWC C H H1 ρ1 v w → Q v H1 := by
      cases e1 : evDs c as η T with
      | ok ds T1 =>
        rw [e1] at p
        simp only [Re.bind_ok] at p ⊢
        cases e2 : evDs c bs η T1 with
        | ok es T2 =>
          rw [e2] at p
          exact p
        | ex cc pl T2 =>
          rw [e2] at p
          exact p
        | no =>
          rw [e2] at p
          exact p
      | ex cc pl T2 =>
        rw [e1] at p
        exact p
      | no =>
        rw [e1] at p
        exact p
    refine ⟨H0, ρ0, η, ρ, T, o, (Po.bind o.hp.sto.lists p0).mono fun ds T1 H1 ρ1 ev _ _ ⟨o1, x1, p1⟩ vs t => ?_⟩
    refine ⟨H0, ρ0, η, ρ1, T1, o1, (Po.bind o1.hp.sto.lists p1).mono fun es T2 H2 ρ2 ev2 _ _ ⟨o2, x2, p2⟩ us t2 => ?_⟩
    refine ⟨by rw [t.len, evDs_len ev], by rw [t2.len, evDs_len ev2], ?_⟩
    have t3 : RepsC C H2 ρ2 (vs ++ us) (ds ++ es) := (Reps.mono o1.hp.sto.lists x2.keep x2.pre t).app t2
    cases e : permD perm (ds ++ es) with
    | none =>
      rw [e] at p2
      exact p2.elim
    | some zs =>
      rw [e] at p2
      obtain ⟨ws, e4, t4⟩ := mapM_reps t3 e
      refine ⟨ws, e4, call_in o2 t4 ?_ (p2.mono fun w T3 H3 ρ3 _ _ x3 q v r => q v (r.back (x1.trans o.hp.sto.lists x2).keep o.hp.sto.lists fun a m => mem_pre x3.pre (mem_pre x2.pre (mem_pre x1.pre m))))⟩
      rw [mapM_len e4]
      unfold kwOk at hk
      simp only [Bool.and_eq_true, decide_eq_true_eq] at hk
      exact hk.1.1.1.1.1
  have fin : ∀ {pins : List (Addr × Obj)} {s : Shared} {H2 : Hp} {vs us : List V} {xs ys : List Value}, Inv X pins σ H2 s → Vals vs xs → Vals us ys → (vs.length = as.length ∧ us.length = bs.length ∧ ∃ zs, perm.mapM (fun j => (vs ++ us)[j]?) = some zs ∧ spF C c f fd.ps.length zs H2 Q (WE W σ)) →
      wpAny (model X.prog X.w) X.A (PySem.call (.ref (C.G f)) xs ((kws.filterMap (·.arg)).zip ys)) (EP X pins σ Q) X.xe s := by
    rintro pins s H2 vs us xs ys I r1 r2 ⟨l1, l2, zs, e, q⟩
    obtain ⟨ws, e5, r5⟩ := mapM_vals (r1.append r2) e
    refine run_fnKw h hn ok (kb np _ perm hk xs ys ws ?_ ?_ e5 s I.kIn) I r5 q
    · rw [← r1.length, l1, hl2, hl]
    · rw [← r2.length, l2, hl3, hkl]
  cases es with
  | nil =>
    cases as with
    | cons a as => cases hl2
    | nil =>
      obtain ⟨H0, ρ0, η, ρ, T, o, q⟩ := q
      have q2 := q H ρ o .refl [] .nil
      refine PySem.W.callWith_KW0 (h₀ := X.base) I.ok.mod.kin F.kp (kw_all pos hkn) (thn (hb.run pos pins s σ H _ I q2) fun ys s1 ⟨us, H1, I1, r, q3⟩ => ⟨I1.kIn, ?_⟩) ?_
      · rw [kw_names]
        exact fin (vs := []) (xs := []) I1 .nil r q3
      · rw [kw_none pos hkn, Bool.or_false]
        rfl
  | cons e es =>
    refine PySem.W.callWith_KW (h₀ := X.base) I.ok.mod.kin F.kp (kw_all pos hkn) (thn (ha.run pos pins s σ H _ I q) fun xs s1 ⟨vs, H1, I1, r1, q1⟩ => ?_) ?_ (starOf (hs e List.mem_cons_self))
    · refine thn (hb.run pos pins s1 σ H1 _ I1 q1) fun ys s2 ⟨us, H2, I2, r2, q2⟩ => ⟨I2.kIn, ?_⟩
      rw [kw_names]
      exact fin I2 r1 r2 q2
    · rw [kw_none pos hkn, Bool.or_false]
      exact noStar pos hs
end
end
end Ev
namespace Ev
open PySem PySem.Spec PyProof.Rows L2
section
variable {C : Cfg} {c : Call} {W : WX} {H H0 : Hp} {ρ ρ0 : List Addr} {σ : L2.St} {η : En} {T : Sto}
theorem reps_ints : ∀ {vs : List V} {ds : List D} {ns : List Int}, RepsC C H ρ vs ds → intsD ds = some ns → vs = ns.map V.int
  | _, _, ns, .nil, e => by
    cases (show some [] = some ns from e)
    rfl
  | _, _, ns, .cons (d := d) (ds := ds) r t, e => by
    cases d with
    | int i =>
      unfold intsD at e
      cases e1 : intsD ds with
      | none =>
        rw [e1] at e
        cases e
      | some is =>
        rw [e1] at e
        cases (show some (i :: is) = some ns from e)
        cases r
        rw [reps_ints t e1]
        rfl
    | _ => exact absurd e (by simp [intsD])
theorem reps_bls : ∀ {vs : List V} {ds : List D} {ns : List Bool}, RepsC C H ρ vs ds → blsD ds = some ns → vs = ns.map V.bl
  | _, _, ns, .nil, e => by
    cases (show some [] = some ns from e)
    rfl
  | _, _, ns, .cons (d := d) (ds := ds) r t, e => by
    cases d with
    | bl i =>
      unfold blsD at e
      cases e1 : blsD ds with
      | none =>
        rw [e1] at e
        cases e
      | some is =>
        rw [e1] at e
        cases (show some (i :: is) = some ns from e)
        cases r
        rw [reps_bls t e1]
        rfl
    | _ => exact absurd e (by simp [blsD])
theorem minF : ∀ (xs : List Int) (x m : Int), (m = x ∨ m ∈ xs) → m ≤ x → (∀ y, y ∈ xs → m ≤ y) → xs.foldl (fun a b => if b < a then b else a) x = m
  | [], x, m, h, _, _ => by
    rcases h with h | h
    · exact h.symm
    · cases h
  | y :: ys, x, m, h, hx, hl => by
    have hy := hl y List.mem_cons_self
    refine minF ys _ m ?_ (by show m ≤ if y < x then y else x; split <;> assumption) fun z hz => hl z (List.mem_cons_of_mem _ hz)
    show m = (if y < x then y else x) ∨ _
    rcases h with h | h
    · left
      subst h
      rw [if_neg (by omega)]
    · rcases List.mem_cons.mp h with h | h
      · left
        subst h
        split
        · rfl
        · omega
      · exact .inr h
theorem maxF : ∀ (xs : List Int) (x m : Int), (m = x ∨ m ∈ xs) → x ≤ m → (∀ y, y ∈ xs → y ≤ m) → xs.foldl (fun a b => if a < b then b else a) x = m
  | [], x, m, h, _, _ => by
    rcases h with h | h
    · exact h.symm
    · cases h
  | y :: ys, x, m, h, hx, hl => by
    have hy := hl y List.mem_cons_self
    refine maxF ys _ m ?_ (by show (if x < y then y else x) ≤ m; split <;> assumption) fun z hz => hl z (List.mem_cons_of_mem _ hz)
    show m = (if x < y then y else x) ∨ _
    rcases h with h | h
    · left
      subst h
      rw [if_neg (by omega)]
    · rcases List.mem_cons.mp h with h | h
      · left
        subst h
        split
        · rfl
        · omega
      · exact .inr h
theorem minI_eq {ns : List Int} {m : Int} (h : m ∈ ns) (hl : ∀ y, y ∈ ns → m ≤ y) : minI ns = m := by
  cases ns with
  | nil => cases h
  | cons x xs => exact minF xs x m (List.mem_cons.mp h) (hl x List.mem_cons_self) fun y hy => hl y (List.mem_cons_of_mem _ hy)
theorem maxI_eq {ns : List Int} {m : Int} (h : m ∈ ns) (hl : ∀ y, y ∈ ns → y ≤ m) : maxI ns = m := by
  cases ns with
  | nil => cases h
  | cons x xs => exact maxF xs x m (List.mem_cons.mp h) (hl x List.mem_cons_self) fun y hy => hl y (List.mem_cons_of_mem _ hy)
/-- a one-place built-in, by values -/
def rB1 (C : Cfg) (f : Sto → Ev.W → Option Ev.W) : List V → Hp → VK → Prop := fun xs H Q => ∃ H0 ρ0 σ η ρ T x wa w Hs, xs = [x] ∧ OkC C H0 ρ0 H ρ σ η T ∧ RepWC C Hs H ρ x wa ∧ f T wa = some w ∧ Fn C Q H0 ρ0 σ η H ρ T w
section
variable {X : Cx}
theorem CallR.imp {f : Value} {r r' : List V → Hp → VK → Prop} (h : CallR X f r) (m : ∀ xs H Q, r' xs H Q → r xs H Q) : CallR X f r' := fun pins s σ H xs us Q I rs q => h pins s σ H xs us Q I rs (m xs H Q q)
theorem cb_len (hK : X.K = C.K) : CallR X (.builtin "len") (rB1 C (b1W .len)) := by
  refine CallR.imp call_len fun xs H Q ⟨H0, ρ0, σ, η, ρ, T, x, wa, w, Hs, e0, o, r, e, k⟩ => ?_
  replace e : lenW T wa = some w := e
  unfold lenW at e
  split at e
  · rename_i ds e1
    cases e
    obtain ⟨a, vs, rfl, h, t⟩ := items_rd o r e1
    refine ⟨_, ds.length, e0, ?_, k.data o (.int _)⟩
    rcases h with h | h
    · exact .inl ⟨vs, hK ▸ h, t.len.symm⟩
    · exact .inr ⟨vs, hK ▸ h, t.len.symm⟩
  · split at e
    · split at e
      · rename_i y _ _
        cases e
        cases r
        exact ⟨_, y.length, e0, ⟨Nat.le_trans (by assumption) LLs, rfl⟩, k.data o (.int _)⟩
      · cases e
    · cases e
theorem cb_abs : CallR X (.builtin "abs") (rB1 C (b1W .abs)) := by
  refine CallR.imp call_abs fun xs H Q ⟨H0, ρ0, σ, η, ρ, T, x, wa, w, Hs, e0, o, r, e, k⟩ => ?_
  simp only [b1W] at e
  split at e
  · rename_i i
    cases e
    cases r
    exact ⟨i, e0, k.data o (.int _)⟩
  · cases e
theorem cb_int : CallR X (.type "int") (rB1 C (b1W .int)) := by
  refine CallR.imp call_int1 fun xs H Q ⟨H0, ρ0, σ, η, ρ, T, x, wa, w, Hs, e0, o, r, e, k⟩ => ?_
  simp only [b1W] at e
  split at e
  · rename_i i
    cases e
    cases r
    exact .inl ⟨i, e0, k.data o (.int _)⟩
  · rename_i i
    cases e
    cases r
    exact .inr ⟨i, e0, k.data o (.int _)⟩
  · cases e
theorem cb_str : CallR X (.type "str") (rB1 C (b1W .str)) := by
  refine CallR.imp call_str_int fun xs H Q ⟨H0, ρ0, σ, η, ρ, T, x, wa, w, Hs, e0, o, r, e, k⟩ => ?_
  simp only [b1W] at e
  split at e
  · rename_i i
    split at e
    · cases e
      cases r
      exact ⟨i, e0, by assumption, k.data o (.str _)⟩
    · cases e
  · cases e
theorem cb_tuple (hK : X.K = C.K) : CallR X (.type "tuple") (rB1 C (b1W .tuple)) := by
  refine CallR.imp call_tuple_of fun xs H Q ⟨H0, ρ0, σ, η, ρ, T, x, wa, w, Hs, e0, o, r, e, k⟩ => ?_
  simp only [b1W] at e
  split at e
  · cases e
    cases r with
    | tup h t => exact ⟨_, _, e0, .inr ⟨hK ▸ h, k.data o (.tup h t)⟩⟩
  · split at e
    · rename_i ds e1
      cases e
      obtain ⟨a, vs, rfl, h, t⟩ := seq_rd o r e1
      exact ⟨a, vs, e0, .inl ⟨Rd.sq h, fun p n => k.tup o n t⟩⟩
    · cases e
theorem cb_list (hK : X.K = C.K) : CallR X (.type "list") (rB1 C (b1W .list)) := by
  refine CallR.imp call_list_of fun xs H Q ⟨H0, ρ0, σ, η, ρ, T, x, wa, w, Hs, e0, o, r, e, k⟩ => ?_
  simp only [b1W] at e
  split at e
  · rename_i ds e1
    cases e
    obtain ⟨a, vs, rfl, h, t⟩ := items_rd o r e1
    exact ⟨a, vs, e0, by rw [hK]; exact h, fun p n => k.lst o n t⟩
  · cases e
theorem on_ints {Hs : Hp} {wa w : Ev.W} {x : V} {f : List Int → Option Ev.W} (o : OkC C H0 ρ0 H ρ σ η T) (r : RepWC C Hs H ρ x wa) (e : onInts T wa f = some w) : ∃ a ns, x = .ref a ∧ SqL C.K H a (ns.map V.int) ∧ f ns = some w := by
  unfold onInts at e
  split at e
  · rename_i ds e1
    split at e
    · rename_i ns e2
      obtain ⟨a, vs, rfl, h, t⟩ := seq_rd o r e1
      rw [reps_ints t e2] at h
      exact ⟨a, ns, rfl, Rd.sq h, e⟩
    · cases e
  · cases e
theorem on_bls {Hs : Hp} {wa w : Ev.W} {x : V} {f : List Bool → Ev.W} (o : OkC C H0 ρ0 H ρ σ η T) (r : RepWC C Hs H ρ x wa) (e : onBls T wa f = some w) : ∃ a ns, x = .ref a ∧ SqL C.K H a (ns.map V.bl) ∧ f ns = w := by
  unfold onBls at e
  split at e
  · rename_i ds e1
    split at e
    · rename_i ns e2
      obtain ⟨a, vs, rfl, h, t⟩ := seq_rd o r e1
      rw [reps_bls t e2] at h
      exact ⟨a, ns, rfl, Rd.sq h, Option.some.inj e⟩
    · cases e
  · cases e
theorem cb_sum (hc : X.calm = true) (hK : X.K = C.K) : CallR X (.builtin "sum") (rB1 C (b1W .sum)) := by
  refine CallR.imp (cr_sum hc) fun xs H Q ⟨H0, ρ0, σ, η, ρ, T, x, wa, w, Hs, e0, o, r, e, k⟩ => ?_
  obtain ⟨a, ns, rfl, h, e⟩ := on_ints o r e
  cases e
  exact ⟨a, ns, e0, hK ▸ h, k.data o (.int _)⟩
theorem cb_min (hc : X.calm = true) (hK : X.K = C.K) : CallR X (.builtin "min") (rB1 C (b1W .min)) := by
  refine CallR.imp (cr_min hc) fun xs H Q ⟨H0, ρ0, σ, η, ρ, T, x, wa, w, Hs, e0, o, r, e, k⟩ => ?_
  obtain ⟨a, ns, rfl, h, e⟩ := on_ints o r e
  split at e
  · cases e
  · rename_i hn
    cases e
    refine ⟨a, ns, e0, hK ▸ h, List.length_pos_iff.mpr hn, fun m hm hl => ?_⟩
    rw [minI_eq hm hl] at k
    exact k.data o (.int _)
theorem cb_max (hc : X.calm = true) (hK : X.K = C.K) : CallR X (.builtin "max") (rB1 C (b1W .max)) := by
  refine CallR.imp (cr_max hc) fun xs H Q ⟨H0, ρ0, σ, η, ρ, T, x, wa, w, Hs, e0, o, r, e, k⟩ => ?_
  obtain ⟨a, ns, rfl, h, e⟩ := on_ints o r e
  split at e
  · cases e
  · rename_i hn
    cases e
    refine ⟨a, ns, e0, hK ▸ h, List.length_pos_iff.mpr hn, fun m hm hl => ?_⟩
    rw [maxI_eq hm hl] at k
    exact k.data o (.int _)
theorem cb_all (hc : X.calm = true) (hK : X.K = C.K) : CallR X (.builtin "all") (rB1 C (b1W .all)) := by
  refine CallR.imp (cr_all hc) fun xs H Q ⟨H0, ρ0, σ, η, ρ, T, x, wa, w, Hs, e0, o, r, e, k⟩ => ?_
  obtain ⟨a, ns, rfl, h, e⟩ := on_bls o r e
  subst e
  exact ⟨a, ns, e0, hK ▸ h, k.data o (.bl _)⟩
theorem cb_any (hc : X.calm = true) (hK : X.K = C.K) : CallR X (.builtin "any") (rB1 C (b1W .any)) := by
  refine CallR.imp (cr_any hc) fun xs H Q ⟨H0, ρ0, σ, η, ρ, T, x, wa, w, Hs, e0, o, r, e, k⟩ => ?_
  obtain ⟨a, ns, rfl, h, e⟩ := on_bls o r e
  subst e
  exact ⟨a, ns, e0, hK ▸ h, k.data o (.bl _)⟩
/-- a built-in's name, what it is -/
def B1.nm : B1 → Option (Str × Value)
  | .len => some ("len", .builtin "len")
  | .abs => some ("abs", .builtin "abs")
  | .int => some ("int", .type "int")
  | .str => some ("str", .type "str")
  | .tuple => some ("tuple", .type "tuple")
  | .list => some ("list", .type "list")
  | .rev => none
  | .sum => some ("sum", .builtin "sum")
  | .min => some ("min", .builtin "min")
  | .max => some ("max", .builtin "max")
  | .all => some ("all", .builtin "all")
  | .any => some ("any", .builtin "any")
theorem cb_all1 (hc : X.calm = true) (hK : X.K = C.K) {b : B1} {x : Str} {v : Value} (e : b.nm = some (x, v)) : CallR X v (rB1 C (b1W b)) := by
  cases b <;> cases e
  · exact cb_len hK
  · exact cb_abs
  · exact cb_int
  · exact cb_str
  · exact cb_tuple hK
  · exact cb_list hK
  · exact cb_sum hc hK
  · exact cb_min hc hK
  · exact cb_max hc hK
  · exact cb_all hc hK
  · exact cb_any hc hK
theorem bootB1 {b : B1} {x : Str} {v : Value} (e : b.nm = some (x, v)) : bootBuiltins x = some v ∧ x ≠ "__name__" ∧ (x == ("__debug__" : Str)) = false := by
  cases b <;> cases e <;> exact ⟨by decide +kernel, by decide, by decide⟩
variable {k : Nat} {bn : Bn} {e1 e2 : Expr} {a b : E} {pos p : Pos} {x : Str}
theorem callWith1 {f : Value} {r : List V → Hp → VK → Prop} {es : List Expr} {t : TA} (hf : (∃ id, f = .builtin id) ∨ ∃ T, f = .type T) (hc : CallR X f r) (hg : Gl X x) (hm : X.mg x = none) (hv : bootBuiltins x = some f) (ha : PA X (e1 :: es) t) (hn : x ≠ "__name__") (hdb : (x == ("__debug__" : Str)) = false)
    (he : starEach (e1 :: es) X.env = (false, eval e1 X.env) :: starEach es X.env) (hpl : (backTo pos (starEach es X.env)).any (·.1) = false) : PE X (.Call (.Name x p) (e1 :: es) [] pos) (tCB r t) := by
  rcases hf with ⟨id, rfl⟩ | ⟨T, rfl⟩
  · exact pe_callB hc hg hm hv ha hn hdb he hpl
  · exact pe_callTy hc hg hm hv ha hn hdb he hpl
theorem B1.fn {b : B1} {x : Str} {v : Value} (e : b.nm = some (x, v)) : (∃ id, v = .builtin id) ∨ ∃ T, v = .type T := by
  cases b <;> cases e <;> first | exact .inl ⟨_, rfl⟩ | exact .inr ⟨_, rfl⟩
theorem se_b1 {b : B1} {v : Value} (h : Cxt C c k bn W X) (hz : bn.er = none) (hb : b.nm = some (x, v)) (hf : x ∈ bn.l) (hg : Gl X x) (hs : ∀ x p, e1 ≠ .Starred x p) (ha : PE X e1 (tE C c W a)) : PE X (.Call (.Name x p) [e1] [] pos) (tE C c W (.b1 b a)) := by
  obtain ⟨hv, hn, hdb⟩ := bootB1 hb
  refine PE.imp (callWith1 (B1.fn hb) (cb_all1 (h.calm hz) h.hK hb) hg (h.free x hf) hv (pa_cons ha pa_nil (starOf hs)) hn hdb (starOf hs) rfl) fun σ H Q ⟨H0, ρ0, η, ρ, T, o, p⟩ => ?_
  refine split1 o p fun v w H1 ρ1 T1 o1 x1 r1 p1 => ?_
  cases e : b1W b T1 w with
  | none =>
    rw [e] at p1
    exact p1.elim
  | some w' =>
    rw [e] at p1
    exact ⟨H0, ρ0, σ, η, ρ1, T1, v, w, w', H, rfl, o1, r1, e, fin_of o.hp.sto.lists x1 p1⟩
theorem se_rev {p2 pos2 : Pos} (h : Cxt C c k bn W X) (hz : bn.er = none) (hf : ("list" : Str) ∈ bn.l) (hg : Gl X "list") (hf2 : ("reversed" : Str) ∈ bn.l) (hg2 : Gl X "reversed") (hs : ∀ x p, e1 ≠ .Starred x p) (ha : PE X e1 (tE C c W a)) :
    PE X (.Call (.Name "list" p) [.Call (.Name "reversed" p2) [e1] [] pos2] [] pos) (tE C c W (.b1 .rev a)) := by
  refine PE.imp (RV.pe_listRev (h.calm hz) hg (h.free _ hf) hg2 (h.free _ hf2) ha (starOf hs) rfl) fun σ H Q ⟨H0, ρ0, η, ρ, T, o, p⟩ => ?_
  refine split1 o p fun v w H1 ρ1 T1 o1 x1 r1 p1 => ?_
  cases e : w.seq T1 with
  | none =>
    simp only [b1W, e] at p1
    exact p1.elim
  | some ds =>
    simp only [b1W, e] at p1
    obtain ⟨a', vs, rfl, hh, t⟩ := seq_rd o1 r1 e
    have k1 := fin_of o.hp.sto.lists x1 p1
    exact ⟨a', vs, rfl, h.hK ▸ Rd.sq hh, fun q n => Fn.lst k1 o1 n t.rv⟩
def B2.id : B2 → String
  | .min => "min"
  | .max => "max"
def B2.f : B2 → Int → Int → Int
  | .max, i, j => if j > i then j else i
  | .min, i, j => if j < i then j else i
theorem b2W_f {b : B2} {i j : Int} : b2W b (.v (.int i)) (.v (.int j)) = some (.v (.int (b.f i j))) := by cases b <;> rfl
def B2.nm : B2 → Str
  | .min => "min"
  | .max => "max"
theorem se_b2 {b0 : B2} (h : Cxt C c k bn W X) (hz : bn.er = none) (hf : b0.nm ∈ bn.l) (hg : Gl X b0.nm) (hs : ∀ x p, e1 ≠ .Starred x p) (hs2 : ∀ x p, e2 ≠ .Starred x p) (ha : PE X e1 (tE C c W a)) (hb : PE X e2 (tE C c W b)) :
    PE X (.Call (.Name b0.nm p) [e1, e2] [] pos) (tE C c W (.b2 b0 a b)) := by
  have hpl : (backTo pos (starEach [e2] X.env)).any (·.1) = false := by
    rw [starOf hs2]
    rfl
  have hbv : bootBuiltins b0.nm = some (.builtin b0.id) := by
    clear hf hg
    cases b0 <;> decide +kernel
  have hc2 : CallR X (.builtin b0.id) (fun xs H Q => ∃ i j, xs = [.int i, .int j] ∧ Q (.int (b0.f i j)) H) := by
    cases b0
    · exact call_min2 (h.calm hz)
    · exact call_max2 (h.calm hz)
  refine PE.imp (callWith1 (.inl ⟨_, rfl⟩) hc2 hg (h.free _ hf) hbv (pa_cons ha (pa_cons hb pa_nil (starOf hs2)) (starOf hs)) (by clear hf hg hbv hc2; cases b0 <;> decide) (by clear hf hg hbv hc2; cases b0 <;> decide) (starOf hs) hpl) fun σ H Q ⟨H0, ρ0, η, ρ, T, o, p⟩ => ?_
  refine split2 o p fun v u wa wb H2 ρ2 T2 o2 x2 r1 r2 p2 => ?_
  cases e : b2W b0 wa wb with
  | none =>
    rw [e] at p2
    exact p2.elim
  | some w =>
    have e2 := e
    unfold b2W at e
    split at e
    · rename_i i j
      cases r1
      cases r2
      rw [b2W_f] at p2
      exact ⟨i, j, rfl, p2 H2 ρ2 o2 .refl _ (.int _)⟩
    · cases e
def Ty.nm : Ty → String
  | .int => "int" | .bool => "bool" | .str => "str" | .tuple => "tuple" | .list => "list"
theorem tyX_of {Hs : Hp} {w : Ev.W} {v : V} {t : Ty} {r0 : Bool} (o : OkC C H0 ρ0 H ρ σ η T) (r : RepWC C Hs H ρ v w) (e : isiW t w = some r0) : ∃ u, TyX C.K H v u ∧ PySem.W.kitOne C.K u (.type t.nm) = some r0 := by
  cases w with
  | v d =>
    have r : RepC C H ρ v d := r
    cases r with
    | non => cases e; exact ⟨_, .base .non, kit_ty (by cases t <;> decide +kernel)⟩
    | bl b => cases e; exact ⟨_, .base (.bl b), kit_ty (by cases t <;> decide +kernel)⟩
    | int i => cases e; exact ⟨_, .base (.int i), kit_ty (by cases t <;> decide +kernel)⟩
    | str x => cases e; exact ⟨_, .base (.str x), kit_ty (by cases t <;> decide +kernel)⟩
    | tup h t' =>
      cases e
      rcases h with (h | ⟨ob, h⟩) | ⟨ob, its, n, h, hcl, _⟩
      · exact ⟨_, .base (.tup h), kit_ty (by cases t <;> decide +kernel)⟩
      · exact ⟨_, .fTuple h, kit_ty (by cases t <;> decide +kernel)⟩
      · exact ⟨_, .kTuple h hcl, kit_ty (by cases t <;> decide +kernel)⟩
    | lst h t' => cases e; exact ⟨_, .base (.frz h), kit_ty (by cases t <;> decide +kernel)⟩
    | loc h => cases e
    | fn f => cases e
    | ro h t' => cases e
  | l f xs =>
    obtain ⟨a, vs, rfl, h, _⟩ := r
    cases e
    exact ⟨_, .base (.lst h), kit_ty (by cases t <;> decide +kernel)⟩
theorem se_isi {t : Ty} {y : Str} {p2 : Pos} (hy : y = ⟨t.nm.toList.map Char.toNat |>.toArray⟩ ∨ bootBuiltins y = some (.type t.nm)) (h : Cxt C c k bn W X) (hf : ("isinstance" : Str) ∈ bn.l) (hg : Gl X "isinstance") (hf2 : y ∈ bn.l) (hg2 : Gl X y) (hyn : y ≠ "__name__") (hyd : (y == ("__debug__" : Str)) = false) (hyv : bootBuiltins y = some (.type t.nm))
    (hs : ∀ x p, e1 ≠ .Starred x p) (ha : PE X e1 (tE C c W a)) : PE X (.Call (.Name "isinstance" p) [e1, .Name y p2] [] pos) (tE C c W (.isi a t)) := by
  have hs2 : ∀ x p, Expr.Name y p2 ≠ .Starred x p := fun x p e => nomatch e
  refine PE.imp (pe_callB call_isi hg (h.free _ hf) (by decide +kernel) (pa_cons ha (pa_cons (pe_bltn hg2 (h.free _ hf2) hyv (v := .ty t.nm) rfl hyn hyd) pa_nil (starOf hs2)) (starOf hs)) (by decide) (by decide) (starOf hs) rfl) fun σ H Q ⟨H0, ρ0, η, ρ, T, o, p⟩ => ?_
  refine split1 o p fun v w H1 ρ1 T1 o1 x1 r1 p1 => ?_
  cases e : isiW t w with
  | none =>
    rw [e] at p1
    exact p1.elim
  | some r0 =>
    rw [e] at p1
    obtain ⟨u, ty, ek⟩ := tyX_of o1 r1 e
    exact ⟨v, .ty t.nm, u, _, r0, rfl, .ty _, h.hK ▸ ty, h.hK ▸ ek, p1 H1 ρ1 o1 .refl _ (.bl _)⟩
end
end
end Ev
namespace Ev
open PySem PySem.Spec PyProof.Rows L2
section
variable {C : Cfg} {c : Call} {W : WX} {H H0 : Hp} {ρ ρ0 : List Addr} {σ : L2.St} {η : En} {T : Sto}
theorem SqT.firm {K : PySem.W.Frag} {H1 : Hp} {a : Addr} {xs : List V} (f : Firm H H1) (h : SqT K H a xs) : SqT K H1 a xs := by
  rcases h with (h | ⟨o, h⟩) | h
  · exact .inl (.inl (f _ _ h fun _ z => nomatch z))
  · exact .inl (.inr ⟨o, f _ _ h fun _ z => nomatch z⟩)
  · exact .inr h
/-- the list at a, locked -/
def FrzL (H : Hp) (a : Addr) (xs : List V) : Prop := ∃ o, H a = some (.frz o (.lst xs))
theorem FrzL.firm {H1 : Hp} {a : Addr} {xs : List V} (f : Firm H H1) (h : FrzL H a xs) : FrzL H1 a xs := by
  obtain ⟨o, h⟩ := h
  exact ⟨o, f _ _ h fun _ z => nomatch z⟩
theorem FrzL.sq {K : PySem.W.Frag} {a : Addr} {xs : List V} (h : FrzL H a xs) : SqL K H a xs := by
  obtain ⟨o, h⟩ := h
  exact .inl (.inr ⟨o, h⟩)
/-- an iterator that yields these data, whatever changes of lists -/
structure Yl (C : Cfg) (H : Hp) (ρ : List Addr) (J : It) (xs : List D) : Prop where
  go : ∀ H1, Firm H H1 → ∀ i, i < xs.length → J.go i H1
  stop : ∀ H1, Firm H H1 → ∀ i, xs.length ≤ i → J.stop i H1
  yld : ∀ H1 ρ1, Firm H H1 → (∀ (n : Nat) (a : Addr), ρ[n]? = some a → ρ1[n]? = some a) → ∀ i v H2 d, J.yld i H1 v H2 → xs[i]? = some d → (∀ a o, H1 a = some o → H2 a = some o) ∧ RepC C H2 ρ1 v d
theorem yl_list {a : Addr} {vs : List V} {ds : List D} (h : FrzL H a vs) (t : RepsC C H ρ vs ds) : Yl C H ρ (Itl C.K a) ds := by
  have l := t.len
  refine ⟨fun H1 f i hi => ⟨vs, vs[i], (h.firm f).sq, List.getElem?_eq_getElem (by omega)⟩, fun H1 f i hi => ⟨vs, (h.firm f).sq, by omega⟩, fun H1 ρ1 f p i v H2 d y e => ?_⟩
  obtain ⟨rfl, q⟩ := y
  obtain ⟨d', e', r⟩ := t.at' (q vs (h.firm f).sq)
  rw [e] at e'
  cases e'
  exact ⟨fun _ _ z => z, r.firm f p⟩
theorem yl_tup {a : Addr} {vs : List V} {ds : List D} (h : SqT C.K H a vs) (t : RepsC C H ρ vs ds) : Yl C H ρ (Itt C.K a) ds := by
  have l := t.len
  refine ⟨fun H1 f i hi => ⟨vs, vs[i], SqT.firm f h, List.getElem?_eq_getElem (by omega)⟩, fun H1 f i hi => ⟨vs, SqT.firm f h, by omega⟩, fun H1 ρ1 f p i v H2 d y e => ?_⟩
  obtain ⟨rfl, q⟩ := y
  obtain ⟨d', e', r⟩ := t.at' (q vs (SqT.firm f h))
  rw [e] at e'
  cases e'
  exact ⟨fun _ _ z => z, r.firm f p⟩
theorem yl_rng {lo hi : Int} : Yl C H ρ (Itr lo (hi - lo).toNat) (rngL lo hi) := by
  have l : (rngL lo hi).length = (hi - lo).toNat := by simp [rngL]
  refine ⟨fun H1 f i h => by rw [l] at h; exact h, fun H1 f i h => by rw [l] at h; exact h, fun H1 ρ1 f p i v H2 d y e => ?_⟩
  obtain ⟨rfl, rfl⟩ := y
  refine ⟨fun _ _ z => z, ?_⟩
  have hlt : i < (rngL lo hi).length := (List.getElem?_eq_some_iff.mp e).1
  have e2 : (rngL lo hi)[i]? = some (.int (lo + (i : Nat))) := by
    rw [l] at hlt
    unfold rngL
    rw [List.getElem?_map, List.getElem?_range hlt]
    rfl
  rw [e2] at e
  cases e
  exact .int _
theorem yl_revL {a : Addr} {vs : List V} {ds : List D} (h : FrzL H a vs) (t : RepsC C H ρ vs ds) : Yl C H ρ (Itv C.K a vs.length) ds.reverse := by
  have l := t.len
  refine ⟨fun H1 f i hi => ?_, fun H1 f i hi => by rw [List.length_reverse] at hi; show vs.length ≤ i; omega, fun H1 ρ1 f p i v H2 d y e => ?_⟩
  · rw [List.length_reverse] at hi
    exact ⟨by omega, vs, vs[vs.length - 1 - i], (h.firm f).sq, List.getElem?_eq_getElem (by omega)⟩
  · obtain ⟨rfl, q⟩ := y
    obtain ⟨d', e', r⟩ := t.at' (q vs (h.firm f).sq)
    have hi : i < ds.reverse.length := (List.getElem?_eq_some_iff.mp e).1
    rw [List.length_reverse] at hi
    rw [List.getElem?_reverse hi, ← l] at e
    rw [e] at e'
    cases e'
    exact ⟨fun _ _ z => z, r.firm f p⟩
theorem yl_revT {a : Addr} {vs : List V} {ds : List D} (h : SqT C.K H a vs) (t : RepsC C H ρ vs ds) : Yl C H ρ (RT.ItvT C.K a vs.length) ds.reverse := by
  have l := t.len
  refine ⟨fun H1 f i hi => ?_, fun H1 f i hi => by rw [List.length_reverse] at hi; show vs.length ≤ i; omega, fun H1 ρ1 f p i v H2 d y e => ?_⟩
  · rw [List.length_reverse] at hi
    exact ⟨by omega, vs, vs[vs.length - 1 - i], SqT.firm f h, List.getElem?_eq_getElem (by omega)⟩
  · obtain ⟨rfl, q⟩ := y
    obtain ⟨d', e', r⟩ := t.at' (q vs (SqT.firm f h))
    have hi : i < ds.reverse.length := (List.getElem?_eq_some_iff.mp e).1
    rw [List.length_reverse] at hi
    rw [List.getElem?_reverse hi, ← l] at e
    rw [e] at e'
    cases e'
    exact ⟨fun _ _ z => z, r.firm f p⟩
theorem yl_enum {a : Addr} {vs : List V} {ds : List D} (h : FrzL H a vs) (t : RepsC C H ρ vs ds) : Yl C H ρ (Ite C.K a) (enumL ds) := by
  have l := t.len
  have le : (enumL ds).length = ds.length := by simp [enumL]
  refine ⟨fun H1 f i hi => ⟨vs, vs[i], (h.firm f).sq, List.getElem?_eq_getElem (by omega)⟩, fun H1 f i hi => ⟨vs, (h.firm f).sq, by omega⟩, fun H1 ρ1 f p i v H2 d y e => ?_⟩
  obtain ⟨q, x, rfl, n, rfl, hx⟩ := y
  obtain ⟨d', e', r⟩ := t.at' (hx vs (h.firm f).sq)
  have e2 : (enumL ds)[i]? = some (.tup [.int (i : Nat), d']) := by simp [enumL, List.getElem?_zipIdx, e']
  rw [e2] at e
  cases e
  have g : ∀ b o, H1 b = some o → upd H1 q (.tup [.int (i : Nat), x]) b = some o := upd_grow n
  exact ⟨g, .tup (.inl (.inl upd_same)) (.cons (.int _) (.cons ((r.firm f p).firm (fun b o e _ => g b o e) fun _ _ z => z) .nil))⟩
theorem zipL_at {xs ys : List D} {i : Nat} {x y : D} (h1 : xs[i]? = some x) (h2 : ys[i]? = some y) : (zipL xs ys)[i]? = some (.tup [x, y]) := by
  have e : (xs.zip ys)[i]? = some (x, y) := List.getElem?_zip_eq_some.mpr ⟨h1, h2⟩
  unfold zipL
  rw [List.getElem?_map, e]
  rfl
theorem yl_zipL {a b : Addr} {vs us : List V} {ds es : List D} (h : FrzL H a vs) (t : RepsC C H ρ vs ds) (h2 : FrzL H b us) (t2 : RepsC C H ρ us es) : Yl C H ρ (Itz C.K a b) (zipL ds es) := by
  have l := t.len
  have l2 := t2.len
  have le : (zipL ds es).length = min ds.length es.length := by simp [zipL]
  refine ⟨fun H1 f i hi => ⟨vs, us, vs[i], us[i], (h.firm f).sq, (h2.firm f).sq, List.getElem?_eq_getElem (by omega), List.getElem?_eq_getElem (by omega)⟩, fun H1 f i hi => ⟨vs, us, (h.firm f).sq, (h2.firm f).sq, by omega⟩, fun H1 ρ1 f p i v H2 d y e => ?_⟩
  obtain ⟨q, x, z, rfl, n, rfl, hx, hz⟩ := y
  obtain ⟨d1, e1, r1⟩ := t.at' (hx vs (h.firm f).sq)
  obtain ⟨d2, e2, r2⟩ := t2.at' (hz us (h2.firm f).sq)
  rw [zipL_at e1 e2] at e
  cases e
  have g : ∀ b o, H1 b = some o → upd H1 q (.tup [x, z]) b = some o := upd_grow n
  exact ⟨g, .tup (.inl (.inl upd_same)) (.cons ((r1.firm f p).firm (fun b o e _ => g b o e) fun _ _ z => z) (.cons ((r2.firm f p).firm (fun b o e _ => g b o e) fun _ _ z => z) .nil))⟩
theorem yl_zipT {a b : Addr} {vs us : List V} {ds es : List D} (h : SqT C.K H a vs) (t : RepsC C H ρ vs ds) (h2 : SqT C.K H b us) (t2 : RepsC C H ρ us es) : Yl C H ρ (RZ.ItzT C.K a b) (zipL ds es) := by
  have l := t.len
  have l2 := t2.len
  have le : (zipL ds es).length = min ds.length es.length := by simp [zipL]
  refine ⟨fun H1 f i hi => ⟨vs, us, vs[i], us[i], SqT.firm f h, SqT.firm f h2, List.getElem?_eq_getElem (by omega), List.getElem?_eq_getElem (by omega)⟩, fun H1 f i hi => ⟨vs, us, SqT.firm f h, SqT.firm f h2, by omega⟩, fun H1 ρ1 f p i v H2 d y e => ?_⟩
  obtain ⟨q, x, z, rfl, n, rfl, hx, hz⟩ := y
  obtain ⟨d1, e1, r1⟩ := t.at' (hx vs (SqT.firm f h))
  obtain ⟨d2, e2, r2⟩ := t2.at' (hz us (SqT.firm f h2))
  rw [zipL_at e1 e2] at e
  cases e
  have g : ∀ b o, H1 b = some o → upd H1 q (.tup [x, z]) b = some o := upd_grow n
  exact ⟨g, .tup (.inl (.inl upd_same)) (.cons ((r1.firm f p).firm (fun b o e _ => g b o e) fun _ _ z => z) (.cons ((r2.firm f p).firm (fun b o e _ => g b o e) fun _ _ z => z) .nil))⟩
/-- an iterable's reading -/
def tI (C : Cfg) (c : Call) (W : WX) (e : E) : TI := fun σ H R => ∃ H0 ρ0 η ρ T, OkC C H0 ρ0 H ρ σ η T ∧ Po C W H0 ρ0 σ η H ρ (evI c e η T) fun xs T1 H1 ρ1 => ∀ J H2, OkC C H0 ρ0 H2 ρ1 σ η T1 → Ext H ρ H2 ρ1 → Yl C H2 ρ1 J xs → R J H2
section
variable {X : Cx} {tg e1 e2 : Expr} {a b : E} {p pos : Pos} {k : Nat} {bn : Bn}
theorem PI.imp {e : Expr} {t t' : TI} (h : PI X tg e t) (m : ∀ σ H Q, t' σ H Q → t σ H Q) : PI X tg e t' := ⟨fun pins s σ H Q I q => h.run pins s σ H Q I (m σ H Q q)⟩
def iSeq (K : PySem.W.Frag) (tl : TE) : TI := fun σ H R => tl σ H fun x H1 => ∃ a, x = .ref a ∧ (((∃ xs, SqL K H1 a xs) ∧ R (Itl K a) H1) ∨ ((∃ xs, SqT K H1 a xs) ∧ R (Itt K a) H1))
theorem pi_seq {l : Expr} {tl : TE} (hl : PE X l tl) : PI X tg l (iSeq X.K tl) := by
  refine ⟨fun pins s σ H R I h => ?_⟩
  refine thn (hl.run pins s σ H _ I h) fun v s1 ⟨x, H1, I1, r1, q1⟩ => ?_
  obtain ⟨a, rfl, q⟩ := q1
  cases r1
  have fp : ∀ b, b ∈ [s1.heap.objs.size] → FpOk X pins H1 b := fun b hb => by
    rw [List.mem_singleton.mp hb]
    exact I1.fpOk (Nat.le_refl _) (I1.hok.fresh (Nat.le_refl _))
  rcases q with ⟨⟨xs, hq⟩, q⟩ | ⟨⟨xs, hq⟩, q⟩
  · obtain ⟨its, rv, p, hz⟩ := I1.list hq
    refine wpAny_pyIter_list p.isList ?_
    exact ⟨s1.heap.objs.size, [s1.heap.objs.size], _, _, H1, rfl, I1.kept (t' := s1.toks) fun b o e => Heap.get?_push_of_some _ e, turn_list a _, ⟨_, Heap.get?_push_size _ rfl, rfl, rfl⟩, fp, q⟩
  · obtain ⟨its, rv, p, hz⟩ := I1.tuple hq
    refine wpAny_pyIter_tuple (show s1.heap.IsTuple a its.toArray from p) ?_
    exact ⟨s1.heap.objs.size, [s1.heap.objs.size], _, _, H1, rfl, I1.kept (t' := s1.toks) fun b o e => Heap.get?_push_of_some _ e, turn_tuple a _, ⟨_, Heap.get?_push_size _ rfl, rfl, rfl⟩, fp, q⟩
theorem rep_lst {v : V} {ds : List D} (r : RepC C H ρ v (.lst ds)) : ∃ a vs, v = .ref a ∧ FrzL H a vs ∧ RepsC C H ρ vs ds := by
  cases r with
  | lst h t => exact ⟨_, _, rfl, ⟨_, h⟩, t⟩
theorem rep_tup {v : V} {ds : List D} (r : RepC C H ρ v (.tup ds)) : ∃ a vs, v = .ref a ∧ SqT C.K H a vs ∧ RepsC C H ρ vs ds := by
  cases r with
  | tup h t => exact ⟨_, _, rfl, h, t⟩
theorem si_sq (hK : X.K = C.K) (ha : PE X e1 (tE C c W a)) : PI X tg e1 (tI C c W (.sq a)) := by
  refine PI.imp (pi_seq (PE.lockd ha)) fun σ H R ⟨H0, ρ0, η, ρ, T, o, p⟩ => ?_
  refine ⟨H0, ρ0, η, ρ, T, o, (Po.bind o.hp.sto.lists p).mono fun w T1 H1 ρ1 ev _ _ ⟨o1, x1, p1⟩ => ?_⟩
  cases e : w.st with
  | none =>
    rw [e] at p1
    exact p1.elim
  | some d =>
    refine ⟨d, rfl, fun v H2 o2 x2 r => ?_⟩
    rw [evI, ev, Re.bind_ok, e] at p
    cases d with
    | lst ds =>
      obtain ⟨a, vs, rfl, h, t⟩ := rep_lst r
      exact ⟨a, rfl, .inl ⟨⟨vs, h.sq⟩, hK ▸ p H2 ρ1 o2 x2 _ H2 o2 x2 (yl_list h t)⟩⟩
    | tup ds =>
      obtain ⟨a, vs, rfl, h, t⟩ := rep_tup r
      exact ⟨a, rfl, .inr ⟨⟨vs, hK ▸ h⟩, hK ▸ p H2 ρ1 o2 x2 _ H2 o2 x2 (yl_tup h t)⟩⟩
    | _ => exact p.elim
theorem si_rvd (h : Cxt C c k bn W X) (hf : ("reversed" : Str) ∈ bn.l) (hg : Gl X "reversed") (hs : ∀ x p, e1 ≠ .Starred x p) (ha : PE X e1 (tE C c W a)) : PI X tg (.Call (.Name "reversed" p) [e1] [] pos) (tI C c W (.rvd a)) := by
  refine PI.imp (RT.pi_revA hg (h.free _ hf) (PE.lockd ha) (starOf hs)) fun σ H R ⟨H0, ρ0, η, ρ, T, o, p⟩ => ?_
  refine ⟨H0, ρ0, η, ρ, T, o, (Po.bind o.hp.sto.lists p).mono fun w T1 H1 ρ1 ev _ _ ⟨o1, x1, p1⟩ => ?_⟩
  cases e : w.st with
  | none =>
    rw [e] at p1
    exact p1.elim
  | some d =>
    refine ⟨d, rfl, fun v H2 o2 x2 r => ?_⟩
    rw [evI, ev, Re.bind_ok, e] at p
    cases d with
    | lst ds =>
      obtain ⟨a, vs, rfl, hh, t⟩ := rep_lst r
      exact ⟨a, vs, rfl, .inl ⟨hh.sq, h.hK ▸ p H2 ρ1 o2 x2 _ H2 o2 x2 (yl_revL hh t)⟩⟩
    | tup ds =>
      obtain ⟨a, vs, rfl, hh, t⟩ := rep_tup r
      exact ⟨a, vs, rfl, .inr ⟨h.hK ▸ hh, h.hK ▸ p H2 ρ1 o2 x2 _ H2 o2 x2 (yl_revT hh t)⟩⟩
    | _ => exact p.elim
theorem si_enum {elts : List Expr} {kk : Nat} {tpos : Pos} (h : Cxt C c k bn W X) (hf : ("enumerate" : Str) ∈ bn.l) (hg : Gl X "enumerate") (hs : ∀ x p, e1 ≠ .Starred x p) (ha : PE X e1 (tE C c W a)) :
    PI X (.Tuple elts kk tpos) (.Call (.Name "enumerate" p) [e1] [] pos) (tI C c W (.enum a)) := by
  refine PI.imp (pi_enum hg (h.free _ hf) (pa_cons (PE.lockd ha) pa_nil (starOf hs)) (starOf hs)) fun σ H R ⟨H0, ρ0, η, ρ, T, o, p⟩ => ?_
  refine ⟨H0, ρ0, η, ρ, T, o, (Po.bind o.hp.sto.lists p).mono fun w T1 H1 ρ1 ev _ _ ⟨o1, x1, p1⟩ => ?_⟩
  cases e : w.st with
  | none =>
    rw [e] at p1
    exact p1.elim
  | some d =>
    refine ⟨d, rfl, fun v H2 o2 x2 r => ?_⟩
    rw [evI, ev, Re.bind_ok, e] at p
    cases d with
    | lst ds =>
      obtain ⟨a, vs, rfl, hh, t⟩ := rep_lst r
      exact ⟨a, vs, rfl, hh.sq, h.hK ▸ p H2 ρ1 o2 x2 _ H2 o2 x2 (yl_enum hh t)⟩
    | _ => exact p.elim
theorem si_zip {elts : List Expr} {kk : Nat} {tpos : Pos} (h : Cxt C c k bn W X) (hf : ("zip" : Str) ∈ bn.l) (hg : Gl X "zip") (hs : ∀ x p, e1 ≠ .Starred x p) (hs2 : ∀ x p, e2 ≠ .Starred x p) (ha : PE X e1 (tE C c W a)) (hb : PE X e2 (tE C c W b)) :
    PI X (.Tuple elts kk tpos) (.Call (.Name "zip" p) [e1, e2] [] pos) (tI C c W (.zip [a, b])) := by
  have hpl : (backTo pos (starEach [e2] X.env)).any (·.1) = false := by
    rw [starOf hs2]
    rfl
  refine PI.imp (RZ.pi_zipA hg (h.free _ hf) (sa_cons hs ha (sa_cons hs2 hb sa_nil)) (starOf hs) hpl) fun σ H R ⟨H0, ρ0, η, ρ, T, o, p⟩ => ?_
  refine ⟨H0, ρ0, η, ρ, T, o, (Po.bind o.hp.sto.lists p).mono fun ds T1 H1 ρ1 ev _ _ ⟨o1, x1, p1⟩ vs t => ?_⟩
  split at p1
  · rename_i xs ys
    cases t with
    | cons r t =>
      cases t with
      | cons r2 t =>
        cases t
        obtain ⟨a, vs, rfl, hh, t⟩ := rep_lst r
        obtain ⟨b, us, rfl, hh2, t2⟩ := rep_lst r2
        exact ⟨a, b, vs, us, rfl, .inl ⟨hh.sq, hh2.sq, h.hK ▸ p1 H1 ρ1 o1 .refl _ H1 o1 x1 (yl_zipL hh t hh2 t2)⟩⟩
  · rename_i xs ys
    cases t with
    | cons r t =>
      cases t with
      | cons r2 t =>
        cases t
        obtain ⟨a, vs, rfl, hh, t⟩ := rep_tup r
        obtain ⟨b, us, rfl, hh2, t2⟩ := rep_tup r2
        exact ⟨a, b, vs, us, rfl, .inr ⟨h.hK ▸ hh, h.hK ▸ hh2, h.hK ▸ p1 H1 ρ1 o1 .refl _ H1 o1 x1 (yl_zipT hh t hh2 t2)⟩⟩
  · exact p1.elim
theorem small_of {i : Int} (h : small62 i = true) : -(2 ^ 62) ≤ i ∧ i < 2 ^ 62 := of_decide_eq_true h
theorem si_rng1 (h : Cxt C c k bn W X) (hf : ("range" : Str) ∈ bn.l) (hg : Gl X "range") (hs : ∀ x p, e1 ≠ .Starred x p) (ha : PE X e1 (tE C c W a)) : PI X tg (.Call (.Name "range" p) [e1] [] pos) (tI C c W (.rng none a)) := by
  refine PI.imp (pi_range1 hg (h.free _ hf) (pa_cons ha pa_nil (starOf hs)) (starOf hs)) fun σ H R ⟨H0, ρ0, η, ρ, T, o, p⟩ => ?_
  refine ⟨H0, ρ0, η, ρ, T, o, (Po.bind o.hp.sto.lists (show Po C W H0 ρ0 σ η H ρ ((evE c a η T).bind _) _ from p)).mono fun w T1 H1 ρ1 _ _ _ ⟨o1, x1, p1⟩ v r => ?_⟩
  cases e : w.i? with
  | none =>
    rw [e] at p1
    exact p1.elim
  | some i =>
    rw [e] at p1
    obtain ⟨rfl, _⟩ := int_of r e
    simp only at p1
    split at p1
    · rename_i hz
      obtain ⟨h1, h2⟩ := small_of hz.2
      refine ⟨i, rfl, h1, h2, ?_⟩
      have e0 : i.toNat = (i - 0).toNat := by rw [Int.sub_zero]
      rw [e0]
      exact p1 H1 ρ1 o1 .refl _ H1 o1 x1 yl_rng
    · exact p1.elim
theorem si_rng2 (h : Cxt C c k bn W X) (hf : ("range" : Str) ∈ bn.l) (hg : Gl X "range") (hs : ∀ x p, e1 ≠ .Starred x p) (hs2 : ∀ x p, e2 ≠ .Starred x p) (ha : PE X e1 (tE C c W a)) (hb : PE X e2 (tE C c W b)) :
    PI X tg (.Call (.Name "range" p) [e1, e2] [] pos) (tI C c W (.rng (some a) b)) := by
  have e20 : starEach [e2] X.env = [(false, eval e2 X.env)] := starOf hs2
  have e10 : starEach [e1, e2] X.env = [(false, eval e1 X.env), (false, eval e2 X.env)] := by
    rw [starOf hs, e20]
  refine PI.imp (pi_range2 hg (h.free _ hf) (pa_cons ha (pa_cons hb pa_nil (starOf hs2)) (starOf hs)) e10 e20) fun σ H R ⟨H0, ρ0, η, ρ, T, o, p⟩ => ?_
  have q : Po C W H0 ρ0 σ η H ρ ((evE c a η T).bind fun x T => (evE c b η T).bind fun y T => match x.i?, y.i? with
    | some l, some h => if small62 l = true ∧ small62 h = true then .ok (rngL l h) T else .no
    | _, _ => .no) fun xs T1 H1 ρ1 => ∀ J H2, OkC C H0 ρ0 H2 ρ1 σ η T1 → Ext H ρ H2 ρ1 → Yl C H2 ρ1 J xs → R J H2 := by
    rw [evI] at p
    cases e1 : evE c a η T with
    | ok w T1 =>
      rw [e1] at p
      simp only [Re.bind_ok] at p ⊢
      cases e2 : w.i? with
      | none =>
        rw [e2] at p
        exact p.elim
      | some l =>
        rw [e2] at p
        simp only [Re.of_some, Re.bind_ok] at p
        cases e3 : evE c b η T1 with
        | ok w2 T2 =>
          rw [e3] at p
          simp only [Re.bind_ok] at p ⊢
          cases e4 : w2.i? with
          | none =>
            rw [e4] at p
            exact p.elim
          | some h =>
            rw [e4] at p
            exact p
        | ex cc pl T2 =>
          rw [e3] at p
          exact p
        | no =>
          rw [e3] at p
          exact p
    | ex cc pl T1 =>
      rw [e1] at p
      exact p
    | no =>
      rw [e1] at p
      exact p
  refine ⟨H0, ρ0, η, ρ, T, o, (Po.bind o.hp.sto.lists q).mono fun w T1 H1 ρ1 _ _ _ ⟨o1, x1, p1⟩ v r => ?_⟩
  refine ⟨H0, ρ0, η, ρ1, T1, o1, (Po.bind o1.hp.sto.lists p1).mono fun w2 T2 H2 ρ2 _ _ _ ⟨o2, x2, p2⟩ v2 r2 => ?_⟩
  split at p2
  · rename_i l h e1 e2
    obtain ⟨rfl, _⟩ := int_of r e1
    obtain ⟨rfl, _⟩ := int_of r2 e2
    split at p2
    · rename_i hz
      obtain ⟨h1, h2⟩ := small_of hz.1
      obtain ⟨h3, h4⟩ := small_of hz.2
      exact ⟨l, h, rfl, ⟨h1, h2, h3, h4⟩, p2 H2 ρ2 o2 .refl _ H2 o2 (x1.trans o.hp.sto.lists x2) yl_rng⟩
    · exact p2.elim
  · exact p2.elim
end
end
end Ev
namespace Ev
open PySem PySem.Spec PyProof.Rows L2
mutual
def tgIn : Tg → List Nat → Bool
  | .var i, vs => vs.contains i
  | .tup ts, vs => tgsIn ts vs
def tgsIn : List Tg → List Nat → Bool
  | [], _ => true
  | t :: ts, vs => tgIn t vs && tgsIn ts vs
end
section
variable {C : Cfg} {c : Call} {W : WX} {H H0 : Hp} {ρ ρ0 : List Addr} {σ : L2.St} {η : En} {T : Sto}
theorem get_put {η : En} {i j : Nat} {s : Slot} (hi : i < η.length) : (η.put i s).get j = if i = j then s else η.get j := by
  unfold En.put En.get
  rw [List.getD_eq_getElem?_getD, List.getD_eq_getElem?_getD, List.getElem?_set]
  split
  · rename_i e
    subst e
    first | (rw [if_pos hi]; rfl) | rfl
  · rfl
/-- a slot forgets -/
theorem Ok.store {v : V} {i : Nat} {s : Slot} (o : OkC C H0 ρ0 H ρ σ η T) (hs : SlotOk C.K C.G H ρ H0 (some (some v)) s) (hi : i < η.length)
    (hj : ∀ xs, s = .own xs → ∀ (j : Nat) (ys : List D) (a : Addr), j ≠ i → η.get j = .own ys → v = .ref a → σ[j]? ≠ some (some (.ref a))) : OkC C H0 ρ0 H ρ (σ.set i (some v)) (η.put i s) T := by
  have hl := o.len
  refine ⟨o.hp, by unfold En.put; rw [List.length_set, List.length_set]; exact hl, fun j => ?_, fun j j' xs ys a hne e1 e2 e3 e4 => ?_⟩
  · rw [get_put hi]
    split
    · rename_i e
      subst e
      rw [List.getElem?_set_self (by omega)]
      exact hs
    · rename_i e
      rw [List.getElem?_set_ne e]
      exact o.slot j
  · rw [get_put hi] at e1 e2
    by_cases h1 : i = j
    · subst h1
      rw [if_pos rfl] at e1
      rw [List.getElem?_set_self (by omega)] at e3
      rw [if_neg hne] at e2
      rw [List.getElem?_set_ne hne] at e4
      have e5 : v = .ref a := Option.some.inj (Option.some.inj e3)
      exact hj xs e1 j' ys a (Ne.symm hne) e2 e5 e4
    · rw [if_neg h1] at e1
      rw [List.getElem?_set_ne h1] at e3
      by_cases h2 : i = j'
      · subst h2
        rw [if_pos rfl] at e2
        rw [List.getElem?_set_self (by omega)] at e4
        have e5 : v = .ref a := Option.some.inj (Option.some.inj e4)
        exact hj ys e2 j xs a hne e1 e5 e3
      · rw [if_neg h2] at e2
        rw [List.getElem?_set_ne h2] at e4
        exact o.inj j j' xs ys a hne e1 e2 e3 e4
theorem Ok.storeV {v : V} {i : Nat} {d : D} (o : OkC C H0 ρ0 H ρ σ η T) (r : RepC C H ρ v d) (hi : i < η.length) : OkC C H0 ρ0 H ρ (σ.set i (some v)) (η.put i (.val d)) T :=
  o.store ⟨v, rfl, r⟩ hi fun xs e => nomatch e
theorem wipe_set {σ : L2.St} {i : Nat} {v : Option V} : ∀ {vs : List Nat}, vs.contains i = true → wipe (σ.set i v) vs = wipe σ vs
  | [], h => by simp at h
  | j :: vs, h => by
    unfold wipe
    by_cases hv : vs.contains i = true
    · rw [wipe_set hv]
    · have hij : i = j := by
        simp only [List.contains_cons, Bool.or_eq_true, beq_iff_eq] at h
        rcases h with h | h
        · exact h
        · exact absurd h hv
      subst hij
      have hn : ∀ (us : List Nat) (σ : L2.St), us.contains i = false → wipe (σ.set i v) us = (wipe σ us).set i v := by
        intro us
        induction us with
        | nil => intro σ _; rfl
        | cons u us ih =>
          intro σ hu
          simp only [List.contains_cons, Bool.or_eq_false_iff, beq_eq_false_iff_ne] at hu
          unfold wipe
          rw [ih σ hu.2, List.set_comm _ _ hu.1]
      rw [hn vs σ (by simpa using hv), List.set_set]
/-- a target's reading -/
def tG (C : Cfg) (tg : Tg) : TG := fun v σ H Q => ∃ H0 ρ0 η ρ T d η1, OkC C H0 ρ0 H ρ σ η T ∧ RepC C H ρ v d ∧ asgT tg d η = some η1 ∧ ∀ σ1, OkC C H0 ρ0 H ρ σ1 η1 T → (∀ vs, tgIn tg vs = true → wipe σ1 vs = wipe σ vs) → Q σ1 H
def tGs (C : Cfg) (ts : List Tg) : TGs := fun vs σ H Q => ∃ H0 ρ0 η ρ T ds η1, OkC C H0 ρ0 H ρ σ η T ∧ RepsC C H ρ vs ds ∧ asgL ts ds η = some η1 ∧ ∀ σ1, OkC C H0 ρ0 H ρ σ1 η1 T → (∀ vs, tgsIn ts vs = true → wipe σ1 vs = wipe σ vs) → Q σ1 H
section
variable {X : Cx} {e1 : Expr} {es : List Expr} {t : Tg} {ts : List Tg} {k : Nat} {bn : Bn} {pos : Pos} {x : Str} {i : Nat}
theorem PG.imp {t t' : TG} (h : PG X e1 t) (m : ∀ v σ H Q, t' v σ H Q → t v σ H Q) : PG X e1 t' := ⟨fun pins s σ H v u Q I r q => h.run pins s σ H v u Q I r (m v σ H Q q)⟩
theorem PGs.imp {t t' : TGs} (h : PGs X es t) (m : ∀ v σ H Q, t' v σ H Q → t v σ H Q) : PGs X es t' := ⟨fun pins s σ H v u Q I r q => h.run pins s σ H v u Q I r (m v σ H Q q)⟩
theorem sg_var (hN : X.N.Nodup) (hi : X.N[i]? = some x) (hx : Loc X.env.scope x) (hf : X.fn x = true ∨ X.env.scope.names.lookup x = some .local) : PG X (.Name x pos) (tG C (.var i)) := by
  refine PG.imp (pg_name hN hi hx hf) fun v σ H Q ⟨H0, ρ0, η, ρ, T, d, η1, o, r, e, q⟩ => ?_
  rw [asgT] at e
  split at e
  · rename_i hl
    have e2 : η.put i (.val d) = η1 := Option.some.inj e
    subst e2
    exact q _ (o.storeV r hl) fun vs hv => wipe_set (by rw [tgIn] at hv; exact hv)
  · cases e
theorem sgs_nil : PGs X [] (tGs C []) := by
  refine PGs.imp pgs_nil fun v σ H Q ⟨H0, ρ0, η, ρ, T, ds, η1, o, r, e, q⟩ => ?_
  cases ds with
  | nil =>
    cases r
    have e2 : η = η1 := Option.some.inj (by rw [asgL] at e; exact e)
    subst e2
    exact ⟨rfl, q σ o fun _ _ => rfl⟩
  | cons d ds => simp [asgL] at e
theorem sgs_cons (hs : (assignEach (e1 :: es) X.env).map (·.2) = assign e1 X.env :: (assignEach es X.env).map (·.2)) (h1 : PG X e1 (tG C t)) (h2 : PGs X es (tGs C ts)) : PGs X (e1 :: es) (tGs C (t :: ts)) := by
  refine PGs.imp (pgs_cons h1 h2 hs) fun v σ H Q ⟨H0, ρ0, η, ρ, T, ds, η1, o, r, e, q⟩ => ?_
  cases ds with
  | nil => simp [asgL] at e
  | cons d ds =>
    cases r with
    | cons r rt =>
      rw [asgL] at e
      split at e
      · rename_i η' e1
        refine ⟨_, _, rfl, H0, ρ0, η, ρ, T, d, η', o, r, e1, fun σ1 o1 w1 => ?_⟩
        refine ⟨H0, ρ0, η', ρ, T, ds, η1, o1, rt, e, fun σ2 o2 w2 => q σ2 o2 fun vs hv => ?_⟩
        rw [tgsIn, Bool.and_eq_true] at hv
        rw [w2 vs hv.2, w1 vs hv.1]
      · cases e
theorem asgL_len : ∀ {ts : List Tg} {ds : List D} {η η1 : En}, asgL ts ds η = some η1 → ts.length = ds.length
  | [], [], _, _, _ => rfl
  | [], _ :: _, _, _, e => by simp [asgL] at e
  | _ :: _, [], _, _, e => by simp [asgL] at e
  | t :: ts, d :: ds, η, η1, e => by
    rw [asgL] at e
    split at e
    · exact congrArg Nat.succ (asgL_len e)
    · cases e
theorem sg_tup {n : Nat} (hc : X.calm = true) (hK : X.K = C.K) (hl : ts.length = n) (hn : (assignEach es X.env).length = n) (hst : (assignEach es X.env).findIdx? (·.1) = none) (h : PGs X es (tGs C ts)) : PG X (.Tuple es k pos) (tG C (.tup ts)) := by
  refine PG.imp (pg_tup hc h hn hst) fun v σ H Q ⟨H0, ρ0, η, ρ, T, d, η1, o, r, e, q⟩ => ?_
  cases d with
  | tup ds =>
    rw [asgT] at e
    obtain ⟨a, vs, rfl, hh, t⟩ := rep_tup r
    exact ⟨a, vs, rfl, hK ▸ hh, by rw [t.len, ← asgL_len e, hl], H0, ρ0, η, ρ, T, ds, η1, o, t, e, fun σ1 o1 w1 => q σ1 o1 fun vs hv => w1 vs (by rw [tgIn] at hv; exact hv)⟩
  | _ => simp [asgT] at e
end
/-! ### comprehensions -/
theorem wipe_len {vs : List Nat} {η : En} : (wipeE η vs).length = η.length := by
  induction vs with
  | nil => rfl
  | cons v vs ih =>
    unfold wipeE En.put
    rw [List.length_set, ih]
theorem wipe_slot : ∀ {vs : List Nat} {η : En} {i : Nat}, ((wipeE η vs).get i = .no) ∨ ((wipeE η vs).get i = η.get i ∧ i ∉ vs)
  | [], η, i => .inr ⟨rfl, List.not_mem_nil⟩
  | v :: vs, η, i => by
    unfold wipeE
    by_cases hv : v < (wipeE η vs).length
    · rw [get_put hv]
      split
      · exact .inl rfl
      · rename_i hne
        rcases @wipe_slot vs η i with h | ⟨h, hm⟩
        · exact .inl h
        · exact .inr ⟨h, by simp only [List.mem_cons, not_or]; exact ⟨fun e => hne e.symm, hm⟩⟩
    · have e : (wipeE η vs).put v .no = wipeE η vs := by
        unfold En.put
        exact List.set_eq_of_length_le (by omega)
      rw [e]
      rcases @wipe_slot vs η i with h | ⟨h, hm⟩
      · exact .inl h
      · by_cases hi : i = v
        · subst hi
          left
          unfold En.get
          rw [List.getD_eq_getElem?_getD, List.getElem?_eq_none (by omega)]
          rfl
        · exact .inr ⟨h, by simp only [List.mem_cons, not_or]; exact ⟨hi, hm⟩⟩
theorem wipe_keep : ∀ {vs : List Nat} {σ : L2.St} {i : Nat}, i ∉ vs → (wipe σ vs)[i]? = σ[i]?
  | [], _, _, _ => rfl
  | v :: vs, σ, i, h => by
    simp only [List.mem_cons, not_or] at h
    unfold wipe
    rw [List.getElem?_set_ne (Ne.symm h.1)]
    exact wipe_keep h.2
theorem Ok.wipe (o : OkC C H0 ρ0 H ρ σ η T) (vs : List Nat) : OkC C H0 ρ0 H ρ (L2.wipe σ vs) (wipeE η vs) T := by
  refine ⟨o.hp, by rw [wipe_len, wipe_length]; exact o.len, fun i => ?_, fun i j xs ys a hne e1 e2 e3 e4 => ?_⟩
  · rcases @wipe_slot vs η i with h | ⟨h, hm⟩
    · rw [h]
      trivial
    · rw [h, wipe_keep hm]
      exact o.slot i
  · rcases @wipe_slot vs η i with h | ⟨h, hm⟩
    · rw [h] at e1
      cases e1
    · rcases @wipe_slot vs η j with h2 | ⟨h2, hm2⟩
      · rw [h2] at e2
        cases e2
      · rw [h] at e1
        rw [h2] at e2
        rw [wipe_keep hm] at e3
        rw [wipe_keep hm2] at e4
        exact o.inj i j xs ys a hne e1 e2 e3 e4
theorem Ext.none {H1 : Hp} {ρ1 : List Addr} {a : Addr} (x : Ext H ρ H1 ρ1) (l : Lists H1 ρ1) (e : H1 a = none) : H a = none := by
  cases q : H a with
  | none => rfl
  | some o =>
    by_cases hm : a ∈ ρ
    · obtain ⟨vs, z⟩ := l a (mem_pre x.pre hm)
      rw [e] at z
      cases z
    · rw [x.keep a o q hm] at e
      cases e
/-- nothing leaves -/
abbrev W0 : WX := fun _ _ _ _ => False
theorem Po.fr {α : Type} {r : Re α} {kk : α → Sto → Hp → List Addr → Prop} {σ2 : L2.St} {η2 : En} (o : OkC C H0 ρ0 H ρ σ η T) (p : Po C W H0 ρ0 σ η H ρ r.calm kk) : Po C W0 H0 ρ0 σ2 η2 H ρ r kk := by
  cases r with
  | ok a T1 => exact fun H1 ρ1 o1 x1 => p H1 ρ1 (o.ext x1 o1.hp.sto) x1
  | ex cc pl T1 => exact p.elim
  | no => exact p
/-- a test of a comprehension -/
def tC' (C : Cfg) (c : Call) : Option E → TT
  | none => tYes
  | some e => tT C c W0 e
/-- the block's work -/
def lcF (c : Call) (elt : E) (cn : Option E) (η : En) (T : Sto) : Re (Option D) := match cn with
    | none => (evE c elt η T).bind fun w T => match w.st with
      | some d => .ok (some d) T
      | none => .no
    | some cn => (evE c cn η T).bind fun x T => match x.b? with
      | some k => if k then (evE c elt η T).bind fun w T => (match w.st with
        | some d => .ok (some d) T
        | none => .no) else .ok none T
      | none => .no
theorem evE_lc {elt : E} {tg : Tg} {it : E} {cn : Option E} {vs : List Nat} : evE c (.lc elt tg it cn vs) η T = (evI c it η T).bind fun xs T => if LL < xs.length then .no else (lcL tg (wipeE η vs) (fun η T => lcF c elt cn η T) xs T).bind fun ys T => .ok (.l true ys) T := by
  rw [evE]
  rfl
theorem drop_at {α : Type} {xs : List α} {i : Nat} (hi : i < xs.length) : xs.drop i = xs[i] :: xs.drop (i + 1) := List.drop_eq_getElem_cons hi
theorem bind_assoc {α β γ : Type} {r : Re α} {f : α → Sto → Re β} {g : β → Sto → Re γ} : (r.bind f).bind g = r.bind fun a S => (f a S).bind g := by cases r <;> rfl
theorem wipe_wipe {σ : L2.St} : ∀ {vs : List Nat}, L2.wipe (L2.wipe σ vs) vs = L2.wipe σ vs
  | [] => rfl
  | v :: vs => by
    have e : L2.wipe σ (v :: vs) = (L2.wipe σ vs).set v none := rfl
    rw [e, wipe_set (by simp)]
    show (L2.wipe (L2.wipe σ vs) vs).set v none = _
    rw [wipe_wipe]
theorem Po.self {α β : Type} {r : Re α} {f : α → Sto → Re β} {kk : β → Sto → Hp → List Addr → Prop} {σ2 : L2.St} {η2 : En} {H1 : Hp} {ρ1 : List Addr} (p : Po C W H0 ρ0 σ η H ρ (r.calm.bind f) kk) :
    Po C W0 H0 ρ0 σ2 η2 H1 ρ1 r fun a T1 H2 ρ2 => r = .ok a T1 ∧ Ext H1 ρ1 H2 ρ2 := by
  cases r with
  | ok a T1 => exact fun H2 ρ2 o2 x2 => ⟨rfl, x2⟩
  | ex cc pl T1 => exact p.elim
  | no => exact p
theorem Ext.firm {H1 : Hp} {ρ1 : List Addr} (x : Ext H ρ H1 ρ1) (l : Lists H ρ) : Firm H H1 := x.keep.firm l
theorem Firm.grow {H1 : Hp} (g : ∀ a o, H a = some o → H1 a = some o) : Firm H H1 := fun a o e _ => g a o e
theorem Firm.chg {a : Addr} {vs : List V} {o : HO} (e : H a = some (.lst vs)) : Firm H (upd H a o) := fun b x q n => by
  rw [upd_ne fun z => by rw [z, e] at q; exact n vs (Option.some.inj q).symm]
  exact q
theorem lc_law {elt : E} {tg : Tg} {it : E} {cn : Option E} {vs : List Nat} {Q : VK} (hv : tgIn tg vs = true) (h : tE C c W (.lc elt tg it cn vs) σ H Q) : tLc (tI C c W it) (tG C tg) (tC' C c cn) (tD C c W0 elt) vs σ H Q := by
  obtain ⟨H0, ρ0, η, ρ, T, o, p⟩ := h
  rw [evE_lc] at p
  have ls := o.hp.sto.lists
  refine ⟨H0, ρ0, η, ρ, T, o, (Po.bind ls p).mono fun xs T1 H1 ρ1 ev _ _ _ J H2 o2 x2 y2 => ?_⟩
  rw [ev, Re.bind_ok] at p
  have hz : xs.length ≤ LL := by
    refine Nat.le_of_not_lt fun z => ?_
    rw [if_pos z] at p
    exact p
  rw [if_neg (by omega)] at p
  clear ev
  intro Da hD
  have l2 := o2.hp.sto.lists
  have hDs : H Da = none := x2.none l2 hD
  obtain ⟨hD0, hDρ⟩ := Ok.fresh0 (σ := σ) (η := η) o2.hp hD
  have nosl := o2.noslot hD
  let Wm : Nat → Nat → Hp → Prop := fun i m Hc => ∃ ρc Tc ys acc, m = xs.length - i ∧ i ≤ xs.length ∧ ys.length ≤ i ∧ OkC C H0 ρ0 Hc ρc σ η Tc ∧ Ext H ρ Hc ρc ∧ Firm H2 Hc ∧ (∀ (n : Nat) (a : Addr), ρ1[n]? = some a → ρc[n]? = some a) ∧
    Hc Da = some (.lst acc) ∧ Da ∉ ρc ∧ RepsC C Hc ρc acc ys ∧ Po C W H0 ρ0 σ η H ρ ((lcL tg (wipeE η vs) (fun η T => lcF c elt cn η T) (xs.drop i) Tc).bind fun zs T => .ok (.l true (ys ++ zs)) T) fun w T1 H1 ρ1 => ∀ v, RepWC C H H1 ρ1 v w → Q v H1
  refine ⟨Wm, ⟨xs.length, ρ1, T1, [], [], by simp, Nat.zero_le _, Nat.le_refl _, o2.grow (upd_grow hD), x2.trans ls (.grow (upd_grow hD)), .grow (upd_grow hD), fun _ _ z => z, upd_same, hDρ, .nil, by simpa using p⟩, ?_⟩
  rintro i m Hc ⟨ρc, Tc, ys, acc, rfl, hi, hy, oc, xc, fc, pc, hDc, hnc, tc, q⟩
  have lc := oc.hp.sto.lists
  by_cases hlt : i < xs.length
  · refine .inr ⟨y2.go Hc fc i hlt, fun Hn => ∃ m', m' < xs.length - i ∧ Wm (i + 1) m' Hn, fun _ z => z, fun x Hy yld => ?_⟩
    obtain ⟨g, r⟩ := y2.yld Hc ρc fc pc i x Hy xs[i] yld (List.getElem?_eq_getElem hlt)
    rw [drop_at hlt, lcL] at q
    split at q
    · exact q.elim
    · rename_i η1 e1
      rw [bind_assoc] at q
      have oy := oc.grow g
      refine ⟨H0, ρ0, wipeE η vs, ρc, Tc, xs[i], η1, oy.wipe vs, r, e1, fun σ1 o1 w1 => ⟨(w1 vs hv).trans wipe_wipe, ?_⟩⟩
      have s := Po.self (σ2 := σ1) (η2 := η1) (H1 := Hy) (ρ1 := ρc) q
      have ly := oy.hp.sto.lists
      -- the turn's end
      have next : ∀ {H4 : Hp} {ρ4 : List Addr} {T4 : Sto} {ys' : List D} {acc' : List V} {H5 : Hp}, OkC C H0 ρ0 H4 ρ4 σ1 η1 T4 → Ext Hy ρc H4 ρ4 → OkC C H0 ρ0 H5 ρ4 σ η T4 → Ext H ρ H5 ρ4 → Firm H4 H5 → H5 Da = some (.lst acc') → RepsC C H5 ρ4 acc' ys' → ys'.length ≤ i + 1 → Da ∉ ρ4 →
          Po C W H0 ρ0 σ η H ρ ((lcL tg (wipeE η vs) (fun η T => lcF c elt cn η T) (xs.drop (i + 1)) T4).bind fun zs T => .ok (.l true (ys' ++ zs)) T) (fun w T1 H1 ρ1 => ∀ v, RepWC C H H1 ρ1 v w → Q v H1) → ∃ m', m' < xs.length - i ∧ Wm (i + 1) m' H5 := fun {H4 ρ4 T4 ys' acc' H5} o4 x4 o5 x5 f5 h5 t5 l5 n5 q5 =>
        ⟨xs.length - (i + 1), by omega, ρ4, T4, ys', acc', rfl, by omega, l5, o5, x5, ((fc.trans (.grow g)).trans (x4.firm ly)).trans f5, fun n a z => x4.pre n a (pc n a z), h5, n5, t5, q5⟩
      have hDy : Hy Da = some (.lst acc) := g _ _ hDc
      have got : ∀ {H4 : Hp} {ρ4 : List Addr} {T4 : Sto} {d : D} {v : V}, OkC C H0 ρ0 H4 ρ4 σ1 η1 T4 → Ext Hy ρc H4 ρ4 → RepC C H4 ρ4 v d → lcF c elt cn η1 Tc = .ok (some d) T4 →
          ∃ acc, H4 Da = some (.lst acc) ∧ acc.length < sizeLine ∧ ∃ m', m' < xs.length - i ∧ Wm (i + 1) m' (upd H4 Da (.lst (acc ++ [v]))) := fun {H4 ρ4 T4 d v} o4 x4 r4 ef => by
        have hD4 : H4 Da = some (.lst acc) := x4.keep _ _ hDy hnc
        have hn4 : Da ∉ ρ4 := fun z => by
          rcases x4.new _ z with z | z
          · exact hnc z
          · rw [hDy] at z
            cases z
        have lt := tc.len
        have f45 : Firm H4 (upd H4 Da (.lst (acc ++ [v]))) := .chg hD4
        refine ⟨acc, hD4, by have := LLs; omega, next o4 x4 ((oy.ext x4 o4.hp.sto).chg hD4 hn4 hD0 nosl) (((xc.trans ls (.grow g)).trans ls x4).chg hDs) f45 upd_same
          ((Reps.firm (((Firm.grow g).trans (x4.firm ly)).trans f45) x4.pre tc).app (.cons (r4.firm f45 fun _ _ z => z) .nil)) (by rw [List.length_append]; simp; omega) hn4 ?_⟩
        rw [ef, Re.calm_ok, Re.bind_ok, bind_assoc] at q
        simpa using q
      have skip : ∀ {H4 : Hp} {ρ4 : List Addr} {T4 : Sto}, OkC C H0 ρ0 H4 ρ4 σ1 η1 T4 → Ext Hy ρc H4 ρ4 → lcF c elt cn η1 Tc = .ok none T4 → ∃ m', m' < xs.length - i ∧ Wm (i + 1) m' H4 := fun {H4 ρ4 T4} o4 x4 ef => by
        have hD4 : H4 Da = some (.lst acc) := x4.keep _ _ hDy hnc
        have hn4 : Da ∉ ρ4 := fun z => by
          rcases x4.new _ z with z | z
          · exact hnc z
          · rw [hDy] at z
            cases z
        refine next o4 x4 (oy.ext x4 o4.hp.sto) ((xc.trans ls (.grow g)).trans ls x4) .refl hD4 (Reps.firm ((Firm.grow g).trans (x4.firm ly)) x4.pre tc) (by omega) hn4 ?_
        rw [ef, Re.calm_ok, Re.bind_ok, bind_assoc] at q
        simpa using q
      cases cn with
      | none =>
        simp only [tC', tYes, if_true]
        refine splitD (α := Option D) (F := fun d T => .ok (some d) T) o1 s fun v d H4 ρ4 T4 o4 x4 r4 p4 => ?_
        exact got o4 x4 r4 (p4 H4 ρ4 o4 .refl).1
      | some cn =>
        refine splitT (α := Option D) (F := fun x T => match x.b? with
          | some k => if k then (evE c elt η1 T).bind fun w T => (match w.st with
            | some d => .ok (some d) T
            | none => .no) else .ok none T
          | none => .no) o1 s fun b H3 ρ3 T3 o3 x3 p3 => ?_
        cases b with
        | true =>
          rw [if_pos rfl]
          refine splitD (α := Option D) (F := fun d T => .ok (some d) T) o3 p3 fun v d H4 ρ4 T4 o4 x4 r4 p4 => ?_
          exact got o4 (x3.trans ly x4) r4 (p4 H4 ρ4 o4 .refl).1
        | false =>
          rw [if_neg (by decide)]
          exact skip o3 x3 (p3 H3 ρ3 o3 .refl).1
  · have e : i = xs.length := by omega
    subst e
    refine .inl ⟨y2.stop Hc fc _ (Nat.le_refl _), ?_⟩
    rw [List.drop_length, lcL, Re.bind_ok, List.append_nil] at q
    exact q Hc ρc oc xc _ ⟨Da, acc, rfl, hDc, tc, hnc, fun _ => hDs⟩
section
variable {X : Cx} {e1 e2 e3 : Expr} {elt it : E} {tg : Tg} {cn : Option E} {own : List (Str × Nat)} {scope : Scope} {k : Nat} {bn : Bn} {pos : Pos} {ifs : List Expr} {spos py : Pos}
/-- a block's context -/
abbrev Cx.bk (X : Cx) (scope : Scope) (s : Shared) (H : Hp) (C : Addr) (cl : List (Str × Addr)) (fp : List Addr) : Cx := X.blk s H scope (compEnvC scope cl C X.env) fp
theorem Cxt.blk (h : Cxt C c k bn W X) (hz : bn.er = none) (s : Shared) (H : Hp) (Ca : Addr) (cl : List (Str × Addr)) (fp : List Addr) : Cxt C c k bn W0 (Cx.bk X scope s H Ca cl fp) :=
  ⟨h.hK, h.nd, fun _ => h.room hz, h.hu, fun _ => h.calm hz, h.k2, LamX.takes0, h.free, fun f fd e => let z := h.fns f fd e; ⟨z.at_, z.kp, z.ok, z.len⟩, h.cls, fun nm e => absurd (hz.symm.trans e) (fun z => nomatch z), fun _ => h.hex hz⟩
theorem se_lc (h : Cxt C c k bn W X) (hz : bn.er = none) (hfo : ∀ x, foldedSetIterable e3 X.env x = pure x) (hb : blkC X.N X.env.scope scope own = true) (hv : tgIn tg (own.map (·.2)) = true) (hi : PI X e2 e3 (tI C c W it))
    (hg : ∀ s H Ca cl fp, PG (Cx.bk X scope s H Ca cl fp) e2 (tG C tg)) (ht : ∀ s H Ca cl fp, PTs (Cx.bk X scope s H Ca cl fp) ifs (tC' C c cn)) (he : ∀ s H Ca cl fp, PE (Cx.bk X scope s H Ca cl fp) e1 (tE C c W0 elt)) :
    PE X (.ListComp e1 [⟨e2, e3, ifs, 0⟩] scope pos) (tE C c W (.lc elt tg it cn (own.map (·.2)))) :=
  PE.imp (pe_lc (h.calm hz) h.nd hi (blkOk_by hb) hg ht (fun s H Ca cl fp => PE.lockd (he s H Ca cl fp)) hfo) fun _ _ _ q => lc_law hv q
theorem sc_none : PTs X [] (tC' C c none) := pts_nil
theorem sc_some {a : E} (ha : PT X e1 (tT C c W0 a)) : PTs X [e1] (tC' C c (some a)) := pts_one ha
end
end
end Ev
namespace Ev
open PySem PySem.Spec PyProof.Rows L2
section
variable {C : Cfg} {c : Call} {W : WX} {H H0 : Hp} {ρ ρ0 : List Addr} {σ : L2.St} {η : En} {T : Sto}
/-- a statement's way -/
structure FX (H : Hp) (ρ : List Addr) (H1 : Hp) (ρ1 : List Addr) : Prop where
  firm : Firm H H1
  pre : ∀ (n : Nat) (a : Addr), ρ[n]? = some a → ρ1[n]? = some a
theorem FX.refl : FX H ρ H ρ := ⟨.refl, fun _ _ z => z⟩
theorem FX.trans {H1 H2 : Hp} {ρ1 ρ2 : List Addr} (a : FX H ρ H1 ρ1) (b : FX H1 ρ1 H2 ρ2) : FX H ρ H2 ρ2 := ⟨a.firm.trans b.firm, fun n x z => b.pre n x (a.pre n x z)⟩
theorem Ext.fx {H1 : Hp} {ρ1 : List Addr} (x : Ext H ρ H1 ρ1) (l : Lists H ρ) : FX H ρ H1 ρ1 := ⟨x.firm l, x.pre⟩
/-- a statement's end -/
def PoS (C : Cfg) (W : WX) (H0 : Hp) (ρ0 : List Addr) (H : Hp) (ρ : List Addr) (r : SR) (Dd : Ends) : Prop := match r with
  | .nx η T => ∀ σ H1 ρ1, OkC C H0 ρ0 H1 ρ1 σ η T → FX H ρ H1 ρ1 → Dd.nx σ H1
  | .bk η T => ∀ σ H1 ρ1, OkC C H0 ρ0 H1 ρ1 σ η T → FX H ρ H1 ρ1 → Dd.bk σ H1
  | .ct η T => ∀ σ H1 ρ1, OkC C H0 ρ0 H1 ρ1 σ η T → FX H ρ H1 ρ1 → Dd.ct σ H1
  | .rt d T => ∀ v H1 ρ1, HpOk C.K C.G H0 ρ0 H1 ρ1 T → FX H ρ H1 ρ1 → RepC C H1 ρ1 v d → Dd.rt v H1
  | .ex cc pl T => ∀ cls d σ η H1 ρ1, OkC C H0 ρ0 H1 ρ1 σ η T → FX H ρ H1 ρ1 → C.ex H1 ρ1 cls d cc pl → W cls d σ H1
  | .no => False
variable {Dd : Ends}
theorem PoS.on {H1 : Hp} {ρ1 : List Addr} {r : SR} (x : FX H ρ H1 ρ1) (p : PoS C W H0 ρ0 H ρ r Dd) : PoS C W H0 ρ0 H1 ρ1 r Dd := by
  cases r with
  | nx η T => exact fun σ H2 ρ2 o y => p σ H2 ρ2 o (x.trans y)
  | bk η T => exact fun σ H2 ρ2 o y => p σ H2 ρ2 o (x.trans y)
  | ct η T => exact fun σ H2 ρ2 o y => p σ H2 ρ2 o (x.trans y)
  | rt d T => exact fun v H2 ρ2 o y => p v H2 ρ2 o (x.trans y)
  | ex cc pl T => exact fun cls d σ η H2 ρ2 o y => p cls d σ η H2 ρ2 o (x.trans y)
  | no => exact p
theorem PoS.bind {r : SR} {f : En → Sto → SR} (p : PoS C W H0 ρ0 H ρ (r.bind f) Dd) : PoS C W H0 ρ0 H ρ r { Dd with nx := fun σ H1 => ∃ η ρ1 T, OkC C H0 ρ0 H1 ρ1 σ η T ∧ PoS C W H0 ρ0 H1 ρ1 (f η T) Dd } := by
  cases r with
  | nx η T => exact fun σ H2 ρ2 o y => ⟨η, ρ2, T, o, PoS.on y p⟩
  | bk η T => exact p
  | ct η T => exact p
  | rt d T => exact p
  | ex cc pl T => exact p
  | no => exact p
/-- an expression ahead of a statement -/
theorem PoS.st {α : Type} {r : Re α} {f : α → Sto → SR} (l : Lists H ρ) (p : PoS C W H0 ρ0 H ρ (r.st f) Dd) : Po C W H0 ρ0 σ η H ρ r fun a T1 H1 ρ1 => OkC C H0 ρ0 H1 ρ1 σ η T1 ∧ Ext H ρ H1 ρ1 ∧ PoS C W H0 ρ0 H ρ (f a T1) Dd := by
  cases r with
  | ok a T1 => exact fun H1 ρ1 o x => ⟨o, x, p⟩
  | ex cc pl T1 => exact fun cls d H1 ρ1 o x e => p cls d σ η H1 ρ1 o (x.fx l) e
  | no => exact p
theorem stE {a : E} {F : Ev.W → Sto → SR} {R : VK} (o : OkC C H0 ρ0 H ρ σ η T) (p : PoS C W H0 ρ0 H ρ ((evE c a η T).st F) Dd)
    (q : ∀ v w H1 ρ1 T1, OkC C H0 ρ0 H1 ρ1 σ η T1 → Ext H ρ H1 ρ1 → RepWC C H H1 ρ1 v w → PoS C W H0 ρ0 H1 ρ1 (F w T1) Dd → R v H1) : tE C c W a σ H R :=
  ⟨H0, ρ0, η, ρ, T, o, (PoS.st o.hp.sto.lists p).mono fun w T1 H1 ρ1 _ _ _ ⟨o1, x1, p1⟩ v r => q v w H1 ρ1 T1 o1 x1 r (p1.on (x1.fx o.hp.sto.lists))⟩
theorem stD {a : E} {F : D → Sto → SR} {R : VK} (o : OkC C H0 ρ0 H ρ σ η T) (p : PoS C W H0 ρ0 H ρ ((evE c a η T).st fun w T => match w.st with
      | some d => F d T
      | none => .no) Dd)
    (q : ∀ v d H1 ρ1 T1, OkC C H0 ρ0 H1 ρ1 σ η T1 → Ext H ρ H1 ρ1 → RepC C H1 ρ1 v d → PoS C W H0 ρ0 H1 ρ1 (F d T1) Dd → R v H1) : tD C c W a σ H R := by
  refine ⟨H0, ρ0, η, ρ, T, o, (PoS.st o.hp.sto.lists p).mono fun w T1 H1 ρ1 _ _ _ ⟨o1, x1, p1⟩ => ?_⟩
  cases e : w.st with
  | none =>
    rw [e] at p1
    exact p1.elim
  | some d =>
    rw [e] at p1
    exact ⟨d, rfl, fun v H2 o2 x2 r => q v d H2 ρ1 T1 o2 x2 r (p1.on (x2.fx o.hp.sto.lists))⟩
theorem stT {a : E} {F : Bool → Sto → SR} {R : Bool → Hp → Prop} (o : OkC C H0 ρ0 H ρ σ η T) (p : PoS C W H0 ρ0 H ρ ((evE c a η T).st fun x T => match x.b? with
      | some k => F k T
      | none => .no) Dd)
    (q : ∀ b H1 ρ1 T1, OkC C H0 ρ0 H1 ρ1 σ η T1 → Ext H ρ H1 ρ1 → PoS C W H0 ρ0 H1 ρ1 (F b T1) Dd → R b H1) : tT C c W a σ H R := by
  refine ⟨H0, ρ0, η, ρ, T, o, (PoS.st o.hp.sto.lists p).mono fun w T1 H1 ρ1 _ _ _ ⟨o1, x1, p1⟩ => ?_⟩
  cases e : w.b? with
  | none =>
    rw [e] at p1
    exact p1.elim
  | some d =>
    rw [e] at p1
    exact ⟨d, rfl, q d H1 ρ1 T1 o1 x1 (p1.on (x1.fx o.hp.sto.lists))⟩
/-- readings -/
def tS (C : Cfg) (c : Call) (W : WX) (s : S) : TS := fun Dd σ H => ∃ H0 ρ0 η ρ T, OkC C H0 ρ0 H ρ σ η T ∧ PoS C W H0 ρ0 H ρ (exS c s η T) Dd
def tSs (C : Cfg) (c : Call) (W : WX) (ss : List S) : TS := fun Dd σ H => ∃ H0 ρ0 η ρ T, OkC C H0 ρ0 H ρ σ η T ∧ PoS C W H0 ρ0 H ρ (exB c ss η T) Dd
/-! ### lists that change -/
/-- a slot's own list is rewritten (or given up) -/
theorem Ok.setO {i : Nat} {xs xs' : List D} {a : Addr} {vs vs' : List V} (o : OkC C H0 ρ0 H ρ σ η T) (ei : η.get i = .own xs) (es : σ[i]? = some (some (.ref a))) (eh : H a = some (.lst vs)) (t : RepsC C H ρ vs' xs') (na : a ∉ ρ) (n0 : H0 a = none) (hi : i < η.length) :
    OkC C H0 ρ0 (upd H a (.lst vs')) ρ σ (η.put i (.own xs')) T := by
  have f : Firm H (upd H a (.lst vs')) := .chg eh
  have idp : ∀ (n : Nat) (a : Addr), ρ[n]? = some a → ρ[n]? = some a := fun _ _ z => z
  refine ⟨⟨⟨o.hp.sto.len, o.hp.sto.nd, fun n b ys e1 e2 => ?_⟩, fun b x q m => ?_, o.hp.pre, o.hp.new, o.hp.l0⟩, by unfold En.put; rw [List.length_set]; exact o.len, fun j => ?_, fun j j' ys zs b hne e1 e2 e3 e4 => ?_⟩
  · obtain ⟨us, q, tt⟩ := o.hp.sto.at_ n b ys e1 e2
    refine ⟨us, ?_, tt.firm f idp⟩
    rw [upd_ne fun z => na (by rw [← z]; exact List.mem_of_getElem? e1)]
    exact q
  · rw [upd_ne fun z => by rw [z, n0] at q; cases q]
    exact o.hp.keep b x q m
  · rw [get_put hi]
    split
    · rename_i e
      subst e
      exact ⟨a, vs', es, upd_same, t.firm f idp, na, n0⟩
    · rename_i hne
      have s := o.slot j
      cases q : η.get j with
      | no => trivial
      | val d =>
        rw [q] at s
        obtain ⟨v, e1, r⟩ := s
        exact ⟨v, e1, r.firm f idp⟩
      | own ys =>
        rw [q] at s
        obtain ⟨b, us, e1, e2, tt, n, z⟩ := s
        refine ⟨b, us, e1, ?_, tt.firm f idp, n, z⟩
        rw [upd_ne fun z => o.inj i j xs ys a hne ei q es (by rw [← z]; exact e1)]
        exact e2
      | err cc pl =>
        rw [q] at s
        exact s.errs f idp
  · rw [get_put hi] at e1 e2
    by_cases h1 : i = j
    · subst h1
      rw [if_neg hne] at e2
      rw [if_pos rfl] at e1
      exact o.inj i j' xs zs b hne ei e2 e3 e4
    · rw [if_neg h1] at e1
      by_cases h2 : i = j'
      · subst h2
        exact o.inj j i ys xs b hne e1 ei e3 e4
      · rw [if_neg h2] at e2
        exact o.inj j j' ys zs b hne e1 e2 e3 e4
/-- a shared list is rewritten -/
theorem Ok.setL {n : Nat} {xs xs' : List D} {a : Addr} {vs vs' : List V} (o : OkC C H0 ρ0 H ρ σ η T) (er : ρ[n]? = some a) (et : T[n]? = some xs) (eh : H a = some (.lst vs)) (t : RepsC C H ρ vs' xs') :
    OkC C H0 ρ0 (upd H a (.lst vs')) ρ σ η (T.set n xs') ∧ Ext H ρ (upd H a (.lst vs')) ρ := by
  have f : Firm H (upd H a (.lst vs')) := .chg eh
  have idp : ∀ (n : Nat) (a : Addr), ρ[n]? = some a → ρ[n]? = some a := fun _ _ z => z
  have ma : a ∈ ρ := List.mem_of_getElem? er
  have hn : n < T.length := (List.getElem?_eq_some_iff.mp et).1
  refine ⟨⟨⟨⟨by rw [List.length_set]; exact o.hp.sto.len, o.hp.sto.nd, fun m b ys e1 e2 => ?_⟩, fun b x q m => ?_, o.hp.pre, o.hp.new, o.hp.l0⟩, o.len, fun j => ?_, o.inj⟩, fun b x q m => ?_, idp, fun b m => .inl m⟩
  · by_cases hm : n = m
    · subst hm
      rw [er] at e1
      cases e1
      rw [List.getElem?_set_self hn] at e2
      cases e2
      exact ⟨vs', upd_same, t.firm f idp⟩
    · rw [List.getElem?_set_ne hm] at e2
      obtain ⟨us, q, tt⟩ := o.hp.sto.at_ m b ys e1 e2
      refine ⟨us, ?_, tt.firm f idp⟩
      rw [upd_ne fun z => ?_]
      · exact q
      · subst z
        have nd := o.hp.sto.nd
        obtain ⟨h1, h2⟩ := List.getElem?_eq_some_iff.mp er
        obtain ⟨h3, h4⟩ := List.getElem?_eq_some_iff.mp e1
        exact hm ((List.getElem_inj nd).mp (h2.trans h4.symm))
  · rw [upd_ne fun z => ?_]
    · exact o.hp.keep b x q m
    · subst z
      rcases o.hp.new _ ma with h | h
      · exact m h
      · rw [h] at q
        cases q
  · have s := o.slot j
    cases q : η.get j with
    | no => trivial
    | val d =>
      rw [q] at s
      obtain ⟨v, e1, r⟩ := s
      exact ⟨v, e1, r.firm f idp⟩
    | own ys =>
      rw [q] at s
      obtain ⟨b, us, e1, e2, tt, nb, z⟩ := s
      refine ⟨b, us, e1, ?_, tt.firm f idp, nb, z⟩
      rw [upd_ne fun z => nb (by rw [z]; exact ma)]
      exact e2
    | err cc pl =>
      rw [q] at s
      exact s.errs f idp
  · rw [upd_ne fun z => m (by rw [z]; exact ma)]
    exact q
theorem own_of {i : Nat} {xs : List D} (h : η.own? i = some xs) : η.get i = .own xs := by
  unfold En.own? at h
  cases e : η.get i with
  | own ys =>
    rw [e] at h
    cases (show some ys = some xs from h)
    rfl
  | no =>
    rw [e] at h
    cases h
  | err cc pl =>
    rw [e] at h
    cases h
  | val d =>
    rw [e] at h
    cases h
theorem own_lt {i : Nat} {xs : List D} (h : η.get i = .own xs) : i < η.length := by
  refine Nat.lt_of_not_le fun z => ?_
  unfold En.get at h
  rw [List.getD_eq_getElem?_getD, List.getElem?_eq_none z] at h
  cases h
section
variable {X : Cx} {st : Stmt} {sts as bs : List Stmt} {s : S} {ss sa sb : List S} {e1 e2 e3 : Expr} {a b d : E} {t : Tg} {k : Nat} {bn : List Str} {pos p py : Pos} {x : Str} {i : Nat}
theorem ss_nil : PSs X [] (tSs C c W []) := PSs.imp pss_nil fun Dd σ H ⟨H0, ρ0, η, ρ, T, o, p⟩ => p σ H ρ o .refl
theorem ss_cons (h1 : PS X st (tS C c W s)) (h2 : PSs X sts (tSs C c W ss)) : PSs X (st :: sts) (tSs C c W (s :: ss)) :=
  PSs.imp (pss_cons h1 h2) fun Dd σ H ⟨H0, ρ0, η, ρ, T, o, p⟩ => ⟨H0, ρ0, η, ρ, T, o, by
    have q := PoS.bind (show PoS C W H0 ρ0 H ρ ((exS c s η T).bind fun η T => exB c ss η T) Dd from p)
    cases e : exS c s η T with
    | nx η1 T1 =>
      rw [e] at q
      exact fun σ H1 ρ1 o1 x1 => let ⟨η2, ρ2, T2, o2, p2⟩ := q σ H1 ρ1 o1 x1; ⟨H0, ρ0, η2, ρ2, T2, o2, p2⟩
    | bk η1 T1 => rw [e] at q; exact q
    | ct η1 T1 => rw [e] at q; exact q
    | rt d1 T1 => rw [e] at q; exact q
    | ex cc pl T1 => rw [e] at q; exact q
    | no => rw [e] at q; exact q⟩
/-- a slot's list is locked: nothing runs -/
theorem ss_frz (h2 : PSs X sts (tSs C c W ss)) : PSs X sts (tSs C c W (.frz i :: ss)) := by
  refine ⟨fun pins s σ H Dd I ⟨H0, ρ0, η, ρ, T, o, p⟩ => ?_⟩
  replace p : PoS C W H0 ρ0 H ρ ((match η.own? i with
    | some xs => SR.nx (η.put i (.val (.lst xs))) T
    | none => .no).bind fun η T => exB c ss η T) Dd := p
  cases e : η.own? i with
  | none =>
    rw [e] at p
    exact p.elim
  | some xs =>
    rw [e] at p
    have eo := own_of e
    have s0 := o.slot i
    rw [eo] at s0
    obtain ⟨a, vs, e1, e2, t, na, n0⟩ := s0
    obtain ⟨od, I1⟩ := I.lock e2 trivial
    have f : Firm H (upd H a (.frz od (.lst vs))) := .chg e2
    have idp : ∀ (n : Nat) (a : Addr), ρ[n]? = some a → ρ[n]? = some a := fun _ _ z => z
    have hi := own_lt eo
    -- the slot is forgotten, the list locked, the slot told again
    have o1 : OkC C H0 ρ0 H ρ (σ.set i (some (.ref a))) (η.put i .no) T := o.store trivial hi fun xs e => nomatch e
    have eσ : σ.set i (some (.ref a)) = σ := by
      apply List.ext_getElem?
      intro j
      by_cases hj : i = j
      · subst hj
        rw [List.getElem?_set_self (by rw [← o.len]; exact hi), e1]
      · rw [List.getElem?_set_ne hj]
    rw [eσ] at o1
    have o2 : OkC C H0 ρ0 (upd H a (.frz od (.lst vs))) ρ σ (η.put i .no) T := o1.chg e2 na n0 fun j ys ej ez => by
      rw [get_put hi] at ej
      by_cases hj : i = j
      · rw [if_pos hj] at ej
        cases ej
      · rw [if_neg hj] at ej
        exact o.inj i j xs ys a hj eo ej e1 ez
    have o3 := o2.storeV (i := i) (v := .ref a) (d := .lst xs) (.lst upd_same (t.firm f idp)) (by unfold En.put; rw [List.length_set]; exact hi)
    rw [eσ] at o3
    have e4 : (η.put i .no).put i (.val (.lst xs)) = η.put i (.val (.lst xs)) := by
      unfold En.put
      rw [List.set_set]
    rw [e4] at o3
    refine h2.run pins s σ _ Dd I1 ⟨H0, ρ0, _, ρ, T, o3, PoS.on ⟨f, idp⟩ p⟩
end
end
end Ev
namespace Ev
open PySem PySem.Spec PyProof.Rows L2
section
variable {C : Cfg} {c : Call} {W : WX} {H H0 : Hp} {ρ ρ0 : List Addr} {σ : L2.St} {η : En} {T : Sto} {Dd : Ends}
variable {X : Cx} {st : Stmt} {sts as bs : List Stmt} {s : S} {ss sa sb : List S} {e1 e2 e3 : Expr} {a b d : E} {t : Tg} {k : Nat} {bn : Bn} {pos p py : Pos} {x y z : Str} {i j l : Nat}
theorem ss_asg {tg : Expr} (ha : PE X e1 (tE C c W a)) (hg : PG X tg (tG C t)) (hs : swapsWithSole [tg] e1 pos.line X.env = pure false) (hw : swappedStores [tg] e1 X.env = pure none) (h1 : (assignEach [tg] X.env).map (·.2) = [assign tg X.env]) :
    PS X (.Assign [tg] e1 pos) (tS C c W (.asg t a)) := by
  refine PS.imp (ps_asg (PE.lockd ha) hg hs hw h1) fun Dd σ H ⟨H0, ρ0, η, ρ, T, o, p⟩ => ?_
  refine stD (F := fun d T => match asgT t d η with
      | some η => .nx η T
      | none => .no) o p fun v d H1 ρ1 T1 o1 x1 r p1 => ?_
  cases e : asgT t d η with
  | none =>
    rw [e] at p1
    exact p1.elim
  | some η1 =>
    rw [e] at p1
    exact ⟨H0, ρ0, η, ρ1, T1, d, η1, o1, r, e, fun σ1 o2 _ => p1 σ1 H1 ρ1 o2 .refl⟩
theorem asg_var {d : D} {η1 : En} (e : asgT (.var i) d η = some η1) : i < η.length ∧ η1 = η.put i (.val d) := by
  rw [asgT] at e
  split at e
  · exact ⟨by assumption, (Option.some.inj e).symm⟩
  · cases e
theorem st_tup {es : List E} {F : Ev.W → Sto → SR} : (evE c (.tup es) η T).st F = (evDs c es η T).st fun ds T => F (.v (.tup ds)) T := by
  rw [evE]
  cases evDs c es η T <;> rfl
theorem ss_par2 {px pt : Pos} {kt k2 : Nat} {pt2 : Pos} (hc : X.calm = true) (hN : X.N.Nodup) (hi : X.N[i]? = some x) (hj : X.N[j]? = some y) (hij : i ≠ j) (hx : X.env.scope.names.lookup x = some .local) (hy : X.env.scope.names.lookup y = some .local)
    (ha : PA X [e1, e2] (tA C c W [a, b])) (hw : swappedStores [.Tuple [.Name x px, .Name y py] kt pt] (.Tuple [e1, e2] k2 pt2) X.env = pure (some [x, y])) :
    PS X (.Assign [.Tuple [.Name x px, .Name y py] kt pt] (.Tuple [e1, e2] k2 pt2) pos) (tS C c W (.asg (.tup [.var i, .var j]) (.tup [a, b]))) := by
  refine PS.imp (ps_par hc hN hi hj hij hx hy ha hw) fun Dd σ H ⟨H0, ρ0, η, ρ, T, o, p⟩ => ?_
  rw [exS, st_tup] at p
  refine ⟨H0, ρ0, η, ρ, T, o, (PoS.st o.hp.sto.lists p).mono fun ds T1 H1 ρ1 ev _ _ ⟨o1, x1, p1⟩ vs t => ?_⟩
  simp only [Ev.W.st_v] at p1
  have hd := evDs_len ev
  match ds, hd, vs, t with
  | [d1, d2], _, _, .cons (v := v1) r1 (.cons (v := v2) r2 .nil) =>
    refine ⟨v1, v2, rfl, ?_⟩
    cases e : asgT (.tup [.var i, .var j]) (.tup [d1, d2]) η with
    | none =>
      rw [e] at p1
      exact p1.elim
    | some η1 =>
      rw [e] at p1
      rw [asgT, asgL] at e
      split at e
      · rename_i η' e1
        obtain ⟨l1, rfl⟩ := asg_var e1
        rw [asgL] at e
        split at e
        · rename_i η'' e2
          obtain ⟨l2, rfl⟩ := asg_var e2
          rw [asgL] at e
          cases e
          exact p1 _ H1 ρ1 ((o1.storeV r1 l1).storeV r2 l2) (x1.fx o.hp.sto.lists)
        · cases e
      · cases e
theorem ss_par3 {px pz pt : Pos} {kt k2 : Nat} {pt2 : Pos} (hc : X.calm = true) (hN : X.N.Nodup) (hi : X.N[i]? = some x) (hj : X.N[j]? = some y) (hl : X.N[l]? = some z) (hij : i ≠ j) (hil : i ≠ l) (hjl : j ≠ l) (hx : X.env.scope.names.lookup x = some .local) (hy : X.env.scope.names.lookup y = some .local) (hz : X.env.scope.names.lookup z = some .local)
    (ha : PA X [e1, e2, e3] (tA C c W [a, b, d])) (hw : swappedStores [.Tuple [.Name x px, .Name y py, .Name z pz] kt pt] (.Tuple [e1, e2, e3] k2 pt2) X.env = pure (some [x, y, z])) :
    PS X (.Assign [.Tuple [.Name x px, .Name y py, .Name z pz] kt pt] (.Tuple [e1, e2, e3] k2 pt2) pos) (tS C c W (.asg (.tup [.var i, .var j, .var l]) (.tup [a, b, d]))) := by
  refine PS.imp (ps_par3 hc hN hi hj hl hij hil hjl hx hy hz ha hw) fun Dd σ H ⟨H0, ρ0, η, ρ, T, o, p⟩ => ?_
  rw [exS, st_tup] at p
  refine ⟨H0, ρ0, η, ρ, T, o, (PoS.st o.hp.sto.lists p).mono fun ds T1 H1 ρ1 ev _ _ ⟨o1, x1, p1⟩ vs t => ?_⟩
  simp only [Ev.W.st_v] at p1
  have hd := evDs_len ev
  match ds, hd, vs, t with
  | [d1, d2, d3], _, _, .cons (v := v1) r1 (.cons (v := v2) r2 (.cons (v := v3) r3 .nil)) =>
    refine ⟨v1, v2, v3, rfl, ?_⟩
    cases e : asgT (.tup [.var i, .var j, .var l]) (.tup [d1, d2, d3]) η with
    | none =>
      rw [e] at p1
      exact p1.elim
    | some η1 =>
      rw [e] at p1
      rw [asgT, asgL] at e
      split at e
      · rename_i η' e1
        obtain ⟨l1, rfl⟩ := asg_var e1
        rw [asgL] at e
        split at e
        · rename_i η'' e2
          obtain ⟨l2, rfl⟩ := asg_var e2
          rw [asgL] at e
          split at e
          · rename_i η3 e3
            obtain ⟨l3, rfl⟩ := asg_var e3
            rw [asgL] at e
            cases e
            exact p1 _ H1 ρ1 (((o1.storeV r1 l1).storeV r2 l2).storeV r3 l3) (x1.fx o.hp.sto.lists)
          · cases e
        · cases e
      · cases e
/-- a slot's value, told -/
def SlotX (C : Cfg) (Hs H : Hp) (ρ : List Addr) (v : V) : Slot → Prop
  | .val d => RepC C H ρ v d
  | .own xs => RepWC C Hs H ρ v (.l true xs)
  | .err _ _ => False
  | .no => False
def tX (C : Cfg) (c : Call) (W : WX) (o : Bool) (a : E) : TE := match o with
  | true => tE C c W a
  | false => tD C c W a
theorem peX {o : Bool} (h : PE X e1 (tE C c W a)) : PE X e1 (tX C c W o a) := by
  cases o
  · exact PE.lockd h
  · exact h
theorem stX {oi : Bool} {a : E} {F : Slot → Sto → SR} {R : VK} (o : OkC C H0 ρ0 H ρ σ η T) (p : PoS C W H0 ρ0 H ρ ((evE c a η T).st fun w T => match slX oi w with
      | some s => F s T
      | none => .no) Dd)
    (q : ∀ v s H1 ρ1 T1, OkC C H0 ρ0 H1 ρ1 σ η T1 → Ext H ρ H1 ρ1 → SlotX C H H1 ρ1 v s → PoS C W H0 ρ0 H1 ρ1 (F s T1) Dd → R v H1) : tX C c W oi a σ H R := by
  cases oi with
  | true =>
    refine stE (F := fun w T => match slX true w with
      | some s => F s T
      | none => .no) o p fun v w H1 ρ1 T1 o1 x1 r p1 => ?_
    cases w with
    | v d => exact p1.elim
    | l f xs =>
      cases f with
      | false => exact p1.elim
      | true => exact q v (.own xs) H1 ρ1 T1 o1 x1 r p1
  | false =>
    refine stD (F := fun d T => F (.val d) T) o ?_ fun v d H1 ρ1 T1 o1 x1 r p1 => q v (.val d) H1 ρ1 T1 o1 x1 r p1
    have e : (fun (w : Ev.W) (T : Sto) => match slX false w with
      | some s => F s T
      | none => .no) = fun (w : Ev.W) (T : Sto) => match w.st with
      | some d => F (.val d) T
      | none => .no := by
      funext w T
      unfold slX
      simp only
      cases w.st <;> rfl
    rw [e] at p
    exact p
theorem SlotX.mono {Hs H' : Hp} {ρ' : List Addr} {v : V} {s : Slot} (l : Lists H ρ) (x : Ext H ρ H' ρ') (r : SlotX C Hs H ρ v s) : SlotX C Hs H' ρ' v s := by
  cases s with
  | no => exact r
  | val d => exact Rep.mono l x.keep x.pre r
  | own xs => exact RepW.mono (w := .l true xs) l x r
  | err cc pl => exact r
theorem ss_parX {oi oj : Bool} {px pt : Pos} {kt k2 : Nat} {pt2 : Pos} (hc : X.calm = true) (hN : X.N.Nodup) (hi : X.N[i]? = some x) (hj : X.N[j]? = some y) (hij : i ≠ j) (hx : X.env.scope.names.lookup x = some .local) (hy : X.env.scope.names.lookup y = some .local)
    (hs : ∀ x p, e1 ≠ .Starred x p) (hs2 : ∀ x p, e2 ≠ .Starred x p) (ha : PE X e1 (tE C c W a)) (hb : PE X e2 (tE C c W b)) (hw : swappedStores [.Tuple [.Name x px, .Name y py] kt pt] (.Tuple [e1, e2] k2 pt2) X.env = pure (some [x, y])) :
    PS X (.Assign [.Tuple [.Name x px, .Name y py] kt pt] (.Tuple [e1, e2] k2 pt2) pos) (tS C c W (.par2 i oi a j oj b)) := by
  refine PS.imp (ps_par hc hN hi hj hij hx hy (pa_cons (peX (o := oi) ha) (pa_cons (peX (o := oj) hb) pa_nil (starOf hs2)) (starOf hs)) hw) fun Dd σ H ⟨H0, ρ0, η, ρ, T, o, p⟩ => ?_
  rw [exS] at p
  refine stX (F := fun s T => (evE c b η T).st fun w2 T => (match slX oj w2 with
      | some s2 => if i < η.length ∧ j < η.length then .nx ((η.put i s).put j s2) T else .no
      | none => .no)) o p fun v s H1 ρ1 T1 o1 x1 r1 p1 => ?_
  refine stX (F := fun s2 T => if i < η.length ∧ j < η.length then .nx ((η.put i s).put j s2) T else .no) o1 p1 fun u s2 H2 ρ2 T2 o2 x2 r2 p2 => ?_
  refine ⟨v, u, rfl, ?_⟩
  split at p2
  · rename_i hl
    have r1' := r1.mono o1.hp.sto.lists x2
    have k1 : SlotOk C.K C.G H2 ρ2 H0 (some (some v)) s := by
      cases s with
      | no => trivial
      | err cc pl => exact r1'.elim
      | val d => exact ⟨v, rfl, r1'⟩
      | own xs =>
        obtain ⟨z, vs, rfl, hz, tt, nz, fz⟩ := r1'
        exact ⟨z, vs, rfl, hz, tt, nz, (Ok.fresh0 (σ := σ) (η := η) o.hp (fz rfl)).1⟩
    have k2 : SlotOk C.K C.G H2 ρ2 H0 (some (some u)) s2 := by
      cases s2 with
      | no => trivial
      | err cc pl => exact r2.elim
      | val d => exact ⟨u, rfl, r2⟩
      | own xs =>
        obtain ⟨z, vs, rfl, hz, tt, nz, fz⟩ := r2
        exact ⟨z, vs, rfl, hz, tt, nz, (Ok.fresh0 (σ := σ) (η := η) o1.hp (fz rfl)).1⟩
    have q1 := o2.store k1 hl.1 fun xs es j' zs b' _ ej ev eb => by
      subst es
      obtain ⟨z, vs, e0, hz, tt, nz, fz⟩ := r1
      rw [ev] at e0
      cases e0
      exact o.noslot (fz rfl) j' zs ej eb
    have q2 := q1.store k2 (by unfold En.put; rw [List.length_set]; exact hl.2) fun xs es j' zs b' hne ej ev eb => by
      subst es
      obtain ⟨z, vs, e0, hz, tt, nz, fz⟩ := r2
      rw [ev] at e0
      cases e0
      by_cases h1 : i = j'
      · subst h1
        rw [get_put hl.1, if_pos rfl] at ej
        subst ej
        obtain ⟨z1, vs1, e1, hz1, _⟩ := r1
        have hlen := o.len
        rw [List.getElem?_set_self (by omega)] at eb
        have e2 := Option.some.inj (Option.some.inj eb)
        rw [e1] at e2
        cases e2
        have := fz rfl
        rw [hz1] at this
        cases this
      · rw [get_put hl.1, if_neg h1] at ej
        rw [List.getElem?_set_ne h1] at eb
        exact o1.noslot (fz rfl) j' zs ej eb
    exact p2 _ H2 ρ2 q2 .refl
  · exact p2.elim
theorem ss_parX3 {oi oj ol : Bool} {px pz pt : Pos} {kt k2 : Nat} {pt2 : Pos} (hc : X.calm = true) (hN : X.N.Nodup) (hi : X.N[i]? = some x) (hj : X.N[j]? = some y) (hl : X.N[l]? = some z) (hij : i ≠ j) (hil : i ≠ l) (hjl : j ≠ l) (hx : X.env.scope.names.lookup x = some .local) (hy : X.env.scope.names.lookup y = some .local) (hz : X.env.scope.names.lookup z = some .local)
    (hs : ∀ x p, e1 ≠ .Starred x p) (hs2 : ∀ x p, e2 ≠ .Starred x p) (hs3 : ∀ x p, e3 ≠ .Starred x p) (ha : PE X e1 (tE C c W a)) (hb : PE X e2 (tE C c W b)) (hd : PE X e3 (tE C c W d)) (hw : swappedStores [.Tuple [.Name x px, .Name y py, .Name z pz] kt pt] (.Tuple [e1, e2, e3] k2 pt2) X.env = pure (some [x, y, z])) :
    PS X (.Assign [.Tuple [.Name x px, .Name y py, .Name z pz] kt pt] (.Tuple [e1, e2, e3] k2 pt2) pos) (tS C c W (.par3 i oi a j oj b l ol d)) := by
  refine PS.imp (ps_par3 hc hN hi hj hl hij hil hjl hx hy hz (pa_cons (peX (o := oi) ha) (pa_cons (peX (o := oj) hb) (pa_cons (peX (o := ol) hd) pa_nil (starOf hs3)) (starOf hs2)) (starOf hs)) hw) fun Dd σ H ⟨H0, ρ0, η, ρ, T, o, p⟩ => ?_
  rw [exS] at p
  refine stX (F := fun s T => (evE c b η T).st fun w2 T => (match slX oj w2 with
      | some s2 => (evE c d η T).st fun w3 T => (match slX ol w3 with
        | some s3 => if i < η.length ∧ j < η.length ∧ l < η.length then .nx (((η.put i s).put j s2).put l s3) T else .no
        | none => .no)
      | none => .no)) o p fun v s H1 ρ1 T1 o1 x1 r1 p1 => ?_
  refine stX (F := fun s2 T => (evE c d η T).st fun w3 T => (match slX ol w3 with
        | some s3 => if i < η.length ∧ j < η.length ∧ l < η.length then .nx (((η.put i s).put j s2).put l s3) T else .no
        | none => .no)) o1 p1 fun u s2 H2 ρ2 T2 o2 x2 r2 p2 => ?_
  refine stX (F := fun s3 T => if i < η.length ∧ j < η.length ∧ l < η.length then .nx (((η.put i s).put j s2).put l s3) T else .no) o2 p2 fun t s3 H3 ρ3 T3 o3 x3 r3 p3 => ?_
  refine ⟨v, u, t, rfl, ?_⟩
  split at p3
  · rename_i hl
    have r1a := r1.mono o1.hp.sto.lists x2
    have r1' := r1a.mono o2.hp.sto.lists x3
    have r2' := r2.mono o2.hp.sto.lists x3
    have k1 : SlotOk C.K C.G H3 ρ3 H0 (some (some v)) s := by
      cases s with
      | no => trivial
      | err cc pl => exact r1'.elim
      | val d => exact ⟨v, rfl, r1'⟩
      | own xs =>
        obtain ⟨z, vs, rfl, hz, tt, nz, fz⟩ := r1'
        exact ⟨z, vs, rfl, hz, tt, nz, (Ok.fresh0 (σ := σ) (η := η) o.hp (fz rfl)).1⟩
    have k2 : SlotOk C.K C.G H3 ρ3 H0 (some (some u)) s2 := by
      cases s2 with
      | no => trivial
      | err cc pl => exact r2'.elim
      | val d => exact ⟨u, rfl, r2'⟩
      | own xs =>
        obtain ⟨z, vs, rfl, hz, tt, nz, fz⟩ := r2'
        exact ⟨z, vs, rfl, hz, tt, nz, (Ok.fresh0 (σ := σ) (η := η) o1.hp (fz rfl)).1⟩
    have k3 : SlotOk C.K C.G H3 ρ3 H0 (some (some t)) s3 := by
      cases s3 with
      | no => trivial
      | err cc pl => exact r3.elim
      | val d => exact ⟨t, rfl, r3⟩
      | own xs =>
        obtain ⟨z, vs, rfl, hz, tt, nz, fz⟩ := r3
        exact ⟨z, vs, rfl, hz, tt, nz, (Ok.fresh0 (σ := σ) (η := η) o2.hp (fz rfl)).1⟩
    have hlen := o.len
    have q1 := o3.store k1 hl.1 fun xs es j' zs b' _ ej ev eb => by
      subst es
      obtain ⟨z, vs, e0, hz, tt, nz, fz⟩ := r1
      rw [ev] at e0
      cases e0
      exact o.noslot (fz rfl) j' zs ej eb
    have q2 := q1.store k2 (by unfold En.put; rw [List.length_set]; exact hl.2.1) fun xs es j' zs b' hne ej ev eb => by
      subst es
      obtain ⟨z, vs, e0, hz, tt, nz, fz⟩ := r2
      rw [ev] at e0
      cases e0
      by_cases h1 : i = j'
      · subst h1
        rw [get_put hl.1, if_pos rfl] at ej
        subst ej
        obtain ⟨z1, vs1, e1, hz1, _⟩ := r1
        rw [List.getElem?_set_self (by omega)] at eb
        have e2 := Option.some.inj (Option.some.inj eb)
        rw [e1] at e2
        cases e2
        have := fz rfl
        rw [hz1] at this
        cases this
      · rw [get_put hl.1, if_neg h1] at ej
        rw [List.getElem?_set_ne h1] at eb
        exact o1.noslot (fz rfl) j' zs ej eb
    have hl2 : j < (η.put i s).length := by unfold En.put; rw [List.length_set]; exact hl.2.1
    have q3 := q2.store k3 (by unfold En.put; rw [List.length_set, List.length_set]; exact hl.2.2) fun xs es j' zs b' hne ej ev eb => by
      subst es
      obtain ⟨z, vs, e0, hz, tt, nz, fz⟩ := r3
      rw [ev] at e0
      cases e0
      by_cases h2 : j = j'
      · subst h2
        rw [get_put hl2, if_pos rfl] at ej
        subst ej
        obtain ⟨z1, vs1, e1, hz1, _⟩ := r2
        rw [List.getElem?_set_self (by rw [List.length_set]; omega)] at eb
        have e2 := Option.some.inj (Option.some.inj eb)
        rw [e1] at e2
        cases e2
        have := fz rfl
        rw [hz1] at this
        cases this
      · rw [get_put hl2, if_neg h2] at ej
        rw [List.getElem?_set_ne h2] at eb
        by_cases h1 : i = j'
        · subst h1
          rw [get_put hl.1, if_pos rfl] at ej
          subst ej
          obtain ⟨z1, vs1, e1, hz1, _⟩ := r1a
          rw [List.getElem?_set_self (by omega)] at eb
          have e2 := Option.some.inj (Option.some.inj eb)
          rw [e1] at e2
          cases e2
          have := fz rfl
          rw [hz1] at this
          cases this
        · rw [get_put hl.1, if_neg h1] at ej
          rw [List.getElem?_set_ne h1] at eb
          exact o2.noslot (fz rfl) j' zs ej eb
    exact p3 _ H3 ρ3 q3 .refl
  · exact p3.elim
/-- a list of its own for a slot -/
theorem own_law {Dd : Ends} {te : TE} (h : tS C c W (.own i a) Dd σ H) : tE C c W a σ H fun x H1 => gName i x σ H1 Dd.nx := by
  obtain ⟨H0, ρ0, η, ρ, T, o, p⟩ := h
  refine stE (F := fun w T => match w with
    | .l true xs => if i < η.length then .nx (η.put i (.own xs)) T else .no
    | _ => .no) o p fun v w H1 ρ1 T1 o1 x1 r p1 => ?_
  split at p1
  · split at p1
    · rename_i xs hi
      obtain ⟨z, vs, rfl, hz, tt, nz, fz⟩ := r
      have f0 := Ok.fresh0 (σ := σ) (η := η) o.hp (fz rfl)
      exact p1 _ H1 ρ1 (o1.store ⟨z, vs, rfl, hz, tt, nz, f0.1⟩ hi fun ys _ j zs b _ ej ev es => by
        cases ev
        exact o.noslot (fz rfl) j zs ej es) .refl
    · exact p1.elim
  · exact p1.elim
theorem ss_own {py : Pos} (hN : X.N.Nodup) (hi : X.N[i]? = some x) (hx : Loc X.env.scope x) (hf : X.fn x = true ∨ X.env.scope.names.lookup x = some .local) (ha : PE X e1 (tE C c W a)) (hs : swapsWith e1 (some (.Name x py)) pos.line X.env = pure false) :
    PS X (.Assign [.Name x py] e1 pos) (tS C c W (.own i a)) :=
  PS.imp (ps_set hN hi hx ha hs hf) fun Dd σ H h => own_law (te := tE C c W a) h
theorem ss_ownC {py spos : Pos} {elt it : E} {tg : Tg} {cn : Option E} {own : List (Str × Nat)} {scope : Scope} {ifs : List Expr} (h : Cxt C c k bn W X) (hz : bn.er = none) (hi : X.N[i]? = some x) (hxl : X.env.scope.names.lookup x = some .local) (hkd : X.env.scope.kind = .function) (hln : (py.line == pos.line) = true)
    (hns : (scope.names.any fun (n, k) => n == x && (k == .local || k == .cell)) = false) (hfo : ∀ x, foldedSetIterable e3 X.env x = pure x) (hb : blkC X.N X.env.scope scope own = true) (hv : tgIn tg (own.map (·.2)) = true) (hit : PI X e2 e3 (tI C c W it))
    (hg : ∀ s H Ca cl fp, PG (Cx.bk X scope s H Ca cl fp) e2 (tG C tg)) (ht : ∀ s H Ca cl fp, PTs (Cx.bk X scope s H Ca cl fp) ifs (tC' C c cn)) (he : ∀ s H Ca cl fp, PE (Cx.bk X scope s H Ca cl fp) e1 (tE C c W0 elt)) :
    PS X (.Assign [.Name x py] (.ListComp e1 [⟨e2, e3, ifs, 0⟩] scope pos) spos) (tS C c W (.own i (.lc elt tg it cn (own.map (·.2))))) :=
  PS.imp (ps_setLc (h.calm hz) h.nd hi hxl (sw_true hkd hxl hln hns) hit (blkOk_by hb) hg ht (fun s H Ca cl fp => PE.lockd (he s H Ca cl fp)) hfo) fun Dd σ H q => lc_law hv (own_law (te := tNil') q)
where tNil' : TE := fun _ _ _ => True
theorem ss_ret (ha : PE X e1 (tE C c W a)) : PS X (.Return (some e1) pos) (tS C c W (.ret a)) := by
  refine PS.imp (ps_ret (PE.lockd ha)) fun Dd σ H ⟨H0, ρ0, η, ρ, T, o, p⟩ => ?_
  exact stD (F := fun d T => .rt d T) o p fun v d H1 ρ1 T1 o1 x1 r p1 => p1 v H1 ρ1 o1.hp .refl r
theorem ss_retN : PS X (.Return none pos) (tS C c W .retN) :=
  PS.imp ps_retN fun Dd σ H ⟨H0, ρ0, η, ρ, T, o, p⟩ => p .non H ρ o.hp .refl .non
theorem ss_pass : PS X (.Pass pos) (tS C c W .pass) := PS.imp ps_pass fun Dd σ H ⟨H0, ρ0, η, ρ, T, o, p⟩ => p σ H ρ o .refl
theorem ss_brk : PS X (.Break pos) (tS C c W .brk) := PS.imp ps_break fun Dd σ H ⟨H0, ρ0, η, ρ, T, o, p⟩ => p σ H ρ o .refl
theorem ss_cnt : PS X (.Continue pos) (tS C c W .cnt) := PS.imp ps_continue fun Dd σ H ⟨H0, ρ0, η, ρ, T, o, p⟩ => p σ H ρ o .refl
theorem ss_exp (ha : PE X e1 (tE C c W a)) (hs : swapsWith e1 none pos.line X.env = pure false) : PS X (.Expr e1 pos) (tS C c W (.exp a)) := by
  refine PS.imp (ps_expr ha hs) fun Dd σ H ⟨H0, ρ0, η, ρ, T, o, p⟩ => ?_
  exact stE (F := fun _ T => .nx η T) o p fun v w H1 ρ1 T1 o1 x1 r p1 => p1 σ H1 ρ1 o1 .refl
theorem ss_if (hc : PT X e1 (tT C c W a)) (ha : PSs X as (tSs C c W sa)) (hb : PSs X bs (tSs C c W sb)) : PS X (.If e1 as bs pos) (tS C c W (.ife a sa sb)) := by
  refine PS.imp (ps_if hc ha hb) fun Dd σ H ⟨H0, ρ0, η, ρ, T, o, p⟩ => ?_
  refine stT (F := fun k T => if k then exB c sa η T else exB c sb η T) o p fun v H1 ρ1 T1 o1 x1 p1 => ?_
  cases v with
  | true => exact ⟨H0, ρ0, η, ρ1, T1, o1, p1⟩
  | false => exact ⟨H0, ρ0, η, ρ1, T1, o1, p1⟩
theorem loop_body {r : SR} {f : En → Sto → SR} {N : L2.St → Hp → Prop} (hN : ∀ η1 T1 σ1 H1 ρ1, OkC C H0 ρ0 H1 ρ1 σ1 η1 T1 → FX H ρ H1 ρ1 → PoS C W H0 ρ0 H ρ (f η1 T1) Dd → N σ1 H1)
    (p : PoS C W H0 ρ0 H ρ (match r with
      | .nx η2 T2 => f η2 T2
      | .ct η2 T2 => f η2 T2
      | .bk η2 T2 => .nx η2 T2
      | r => r) Dd) : PoS C W H0 ρ0 H ρ r { Dd with nx := N, ct := N, bk := Dd.nx } := by
  cases r with
  | nx η1 T1 => exact fun σ1 H1 ρ1 o1 x1 => hN η1 T1 σ1 H1 ρ1 o1 x1 p
  | ct η1 T1 => exact fun σ1 H1 ρ1 o1 x1 => hN η1 T1 σ1 H1 ρ1 o1 x1 p
  | bk η1 T1 => exact p
  | rt d T => exact p
  | ex cc pl T => exact p
  | no => exact p
theorem ss_for {tg : Expr} {sb' : List Stmt} (h : Cxt C c k bn W X) (hz : bn.er = none) (hp : PassesOwn (model X.prog X.w) X.A X.env X.xe) (hi : PI X tg e1 (tI C c W a)) (hg : PG X tg (tG C t)) (hb : PSs X sb' (tSs C c W sb)) (hfo : ∀ x, foldedSetIterable e1 X.env x = pure x) :
    PS X (.For tg e1 sb' [] pos) (tS C c W (.for t a sb)) := by
  refine PS.imp (ps_for hp (h.calm hz) hi hg hb hfo) fun Dd σ H ⟨H0, ρ0, η, ρ, T, o, p⟩ => ?_
  have ls := o.hp.sto.lists
  refine ⟨H0, ρ0, η, ρ, T, o, (PoS.st ls p).mono fun xs T1 H1 ρ1 ev _ _ ⟨o1, x1, p1⟩ J H2 o2 x2 y2 => ?_⟩
  have fx := x2.fx ls
  refine ⟨fun i m σ' H' => ∃ η' ρ' T', m = xs.length - i ∧ i ≤ xs.length ∧ OkC C H0 ρ0 H' ρ' σ' η' T' ∧ FX H2 ρ1 H' ρ' ∧ PoS C W H0 ρ0 H' ρ' (forL t (fun η T => exB c sb η T) (xs.drop i) η' T') Dd, ⟨xs.length, η, ρ1, T1, by simp, Nat.zero_le _, o2, .refl, by simpa using p1.on fx⟩, ?_⟩
  rintro i m σ' H' ⟨η', ρ', T', rfl, hi, o', f', q⟩
  by_cases hlt : i < xs.length
  · refine .inr ⟨y2.go H' f'.firm i hlt, fun σ3 H3 => ∃ m', m' < xs.length - i ∧ ∃ η' ρ' T', m' = xs.length - (i + 1) ∧ i + 1 ≤ xs.length ∧ OkC C H0 ρ0 H3 ρ' σ3 η' T' ∧ FX H2 ρ1 H3 ρ' ∧ PoS C W H0 ρ0 H3 ρ' (forL t (fun η T => exB c sb η T) (xs.drop (i + 1)) η' T') Dd, fun _ _ z => z, fun x Hy yld => ?_⟩
    obtain ⟨g, r⟩ := y2.yld H' ρ' f'.firm f'.pre i x Hy xs[i] yld (List.getElem?_eq_getElem hlt)
    have fg : FX H' ρ' Hy ρ' := ⟨.grow g, fun _ _ z => z⟩
    rw [drop_at hlt, forL] at q
    split at q
    · exact q.elim
    · rename_i η1 e1
      refine ⟨H0, ρ0, η', ρ', T', xs[i], η1, o'.grow g, r, e1, fun σ1 o3 _ => ⟨H0, ρ0, η1, ρ', T', o3, ?_⟩⟩
      exact loop_body (fun η4 T4 σ4 H4 ρ4 o4 x4 p4 => ⟨xs.length - (i + 1), by omega, η4, ρ4, T4, rfl, hlt, o4, (f'.trans fg).trans x4, p4.on x4⟩) (q.on fg)
  · have e : i = xs.length := by omega
    subst e
    refine .inl ⟨y2.stop H' f'.firm _ (Nat.le_refl _), ?_⟩
    rw [List.drop_length] at q
    exact q σ' H' ρ' o' .refl
theorem ss_whl (h : Cxt C c k bn W X) (hp : PassesOwn (model X.prog X.w) X.A X.env X.xe) (hc : PT X e1 (tT C c W a)) (hb : PSs X bs (tSs C c W sb)) : PS X (.While e1 bs [] pos) (tS C c W (.whl a sb)) := by
  refine PS.imp (ps_while hp hc hb) fun Dd σ H ⟨H0, ρ0, η, ρ, T, o, p⟩ => ?_
  rw [exS] at p
  refine ⟨fun m σ' H' => ∃ η' ρ' T', OkC C H0 ρ0 H' ρ' σ' η' T' ∧ PoS C W H0 ρ0 H' ρ' (whlL (fun η T => evE c a η T) (fun η T => exB c sb η T) m η' T') Dd, ⟨WN, η, ρ, T, o, p⟩, ?_⟩
  rintro m σ' H' ⟨η', ρ', T', o', q⟩
  cases m with
  | zero => exact q.elim
  | succ m =>
    rw [whlL] at q
    refine stT (Dd := Dd) (F := fun k T1 => match k with
      | false => .nx η' T1
      | true => match exB c sb η' T1 with
        | .nx η2 T2 => whlL (fun η T => evE c a η T) (fun η T => exB c sb η T) m η2 T2
        | .ct η2 T2 => whlL (fun η T => evE c a η T) (fun η T => exB c sb η T) m η2 T2
        | .bk η2 T2 => .nx η2 T2
        | r => r) o' ?_ fun v H1 ρ1 T1 o1 x1 p1 => ?_
    · refine cast ?_ q
      congr 2
      funext x T1
      cases x.b? with
      | none => rfl
      | some k => cases k <;> rfl
    · cases v with
      | false =>
        rw [if_neg (by decide)]
        exact p1 σ' H1 ρ1 o1 .refl
      | true =>
        rw [if_pos rfl]
        refine ⟨fun σ3 H3 => ∃ m', m' < m + 1 ∧ ∃ η' ρ' T', OkC C H0 ρ0 H3 ρ' σ3 η' T' ∧ PoS C W H0 ρ0 H3 ρ' (whlL (fun η T => evE c a η T) (fun η T => exB c sb η T) m' η' T') Dd, fun _ _ z => z, H0, ρ0, η', ρ1, T1, o1, ?_⟩
        exact loop_body (fun η4 T4 σ4 H4 ρ4 o4 x4 p4 => ⟨m, by omega, η4, ρ4, T4, o4, p4.on x4⟩) p1
end
end Ev
namespace Ev
open PySem PySem.Spec PyProof.Rows L2
section
variable {C : Cfg} {c : Call} {W : WX} {H H0 : Hp} {ρ ρ0 : List Addr} {σ : L2.St} {η : En} {T : Sto} {Dd : Ends}
variable {X : Cx} {e1 e2 e3 : Expr} {a b d : E} {k : Nat} {bn : Bn} {pos p p2 p3 py : Pos} {x : Str} {i : Nat}
/-- extend by a list that is read -/
def rExtendR : V → List V → Hp → VK → Prop := fun x vs H Q => ∃ l b xs zs, x = .ref l ∧ vs = [.ref b] ∧ H l = some (.lst xs) ∧ Rd H b (.lst zs) ∧ xs.length + zs.length ≤ sizeLine ∧ Q .non (upd H l (.lst (xs ++ zs)))
theorem mt_extendR : MtR X "list.extend" rExtendR := by
  intro pins s σ H x vs v us Q I rx rv h
  obtain ⟨l, b, xs, zs, rfl, rfl, hH, hB, hz, q⟩ := h
  cases rx
  obtain ⟨u, rfl, ru⟩ := rv.one
  cases ru
  obtain ⟨z, its, n, r, hl, e⟩ := I.lstM hH
  obtain ⟨z2, its2, n2, r2, e2⟩ := rd_list I hB
  have hl2 := r2.length
  have hsz : its.toArray.size + its2.toArray.size ≤ sizeLine := by rw [List.size_toArray, List.size_toArray]; omega
  have hlong : ¬ (!its.toArray.isEmpty && Builtin.List.listTooLong (its.toArray.size + its2.toArray.size)) = true := by
    rw [notLongL hsz, Bool.and_false]
    exact Bool.false_ne_true
  refine call_meets F.slot_list_extend ⟨_, e, rfl⟩ F.entry_list_extend (F.args_list_extend_2 _ _)
    (AutoSeq1.list_extend_list_list_0 l its.toArray n b its2.toArray n2 hlong (by rw [List.size_toArray]; omega) (by omega)) ⟨e, e2, ?_⟩
  refine ⟨.non, _, I.lset (its' := its ++ its2) hH e (by simp) (r.append r2) ?_, rfl, q⟩
  rw [List.length_append]
  omega
theorem meth1 {o : Expr} {to : TE} {t : TA} {name : Str} {apos : Pos} {id : String} {r : V → List V → Hp → VK → Prop} (slot : PySem.Slot "list" name id) (hty : typeOf (.builtin id) = pure (.type "method_descriptor")) (hm : MtR X id r) (ho : PE X o to) (hs : ∀ x p, e1 ≠ .Starred x p) (ha : PA X [e1] t)
    (hbase : attributeBase o name X.env (eval o X.env) = eval o X.env) (hl : (apos.endLine == pos.line) = true) : PE X (.Call (.Attribute o name apos) [e1] [] pos) (tBM X.K "list" r to t) := by
  refine pe_bm PySem.F.plainAttrs_list slot hty hm ho ha hbase ?_ hl (starOf hs) rfl
  rw [starOf hs]
  rfl
theorem swE (h : ∀ a b c d, e1 ≠ .ListComp a b c d) (h2 : ∀ a b c d, e1 ≠ .SetComp a b c d) (h3 : ∀ a b c d e, e1 ≠ .DictComp a b c d e) {t : Option Expr} {l : Nat} {env : Env} : swapsWith e1 t l env = pure false := by
  cases e1 <;> first | rfl | exact absurd rfl (h _ _ _ _) | exact absurd rfl (h2 _ _ _ _) | exact absurd rfl (h3 _ _ _ _ _)
/-- the slot's list, at hand -/
theorem own_at {xs : List D} (o : OkC C H0 ρ0 H ρ σ η T) (e : η.get i = .own xs) : ∃ a vs, σ[i]? = some (some (.ref a)) ∧ H a = some (.lst vs) ∧ RepsC C H ρ vs xs ∧ a ∉ ρ ∧ H0 a = none := by
  have s := o.slot i
  rw [e] at s
  exact s
theorem Firm.fx {H1 : Hp} (f : Firm H H1) : FX H ρ H1 ρ := ⟨f, fun _ _ z => z⟩
theorem ss_app {apos : Pos} (h : Cxt C c k bn W X) (hN : X.N[i]? = some x) (hv : Vis X.env.scope x) (hd : (x == ("__debug__" : Str)) = false) (hcd : (x == ("__classdict__" : Str)) = false) (hs : ∀ x p, e1 ≠ .Starred x p) (hl : (apos.endLine == p2.line) = true) (ha : PE X e1 (tE C c W a)) :
    PS X (.Expr (.Call (.Attribute (.Name x p) "append" apos) [e1] [] p2) pos) (tS C c W (.app i a)) := by
  refine PS.imp (ps_expr (meth1 PySem.F.slot_list_append PySem.F.type_list_append mt_append (pe_var hN hv hd hcd) hs (pa_cons (PE.lockd ha) pa_nil (starOf hs)) rfl hl) rfl) fun Dd σ H ⟨H0, ρ0, η, ρ, T, o, p⟩ => ?_
  rw [exS] at p
  cases eo : η.own? i with
  | none =>
    rw [eo] at p
    exact p.elim
  | some xs =>
    rw [eo] at p
    replace eo := own_of eo
    obtain ⟨z, vs, e1, e2, t, na, n0⟩ := own_at o eo
    refine ⟨.ref z, e1, .inl ⟨rfl, vs, Rd.sq (.inl e2)⟩, ?_⟩
    refine stD (F := fun d T => if xs.length < LL then .nx (η.put i (.own (xs ++ [d]))) T else .no) o p fun v d H1 ρ1 T1 o1 x1 r p1 => ?_
    obtain ⟨z', vs', e1', e2', t', na', n0'⟩ := own_at o1 eo
    rw [e1] at e1'
    cases e1'
    split at p1
    · rename_i hz
      have lt := t'.len
      have hLL := LLs
      exact ⟨z, vs', v, rfl, rfl, e2', by omega, p1 σ _ ρ1 (o1.setO eo e1 e2' (t'.app (.cons r .nil)) na' n0' (own_lt eo)) (Firm.fx (.chg e2'))⟩
    · exact p1.elim
theorem ss_ext {apos : Pos} (h : Cxt C c k bn W X) (hN : X.N[i]? = some x) (hv : Vis X.env.scope x) (hd : (x == ("__debug__" : Str)) = false) (hcd : (x == ("__classdict__" : Str)) = false) (hs : ∀ x p, e1 ≠ .Starred x p) (hl : (apos.endLine == p2.line) = true) (ha : PE X e1 (tE C c W a)) :
    PS X (.Expr (.Call (.Attribute (.Name x p) "extend" apos) [e1] [] p2) pos) (tS C c W (.ext i a)) := by
  refine PS.imp (ps_expr (meth1 PySem.F.slot_list_extend PySem.F.type_list_extend mt_extendR (pe_var hN hv hd hcd) hs (pa_cons ha pa_nil (starOf hs)) rfl hl) rfl) fun Dd σ H ⟨H0, ρ0, η, ρ, T, o, p⟩ => ?_
  rw [exS] at p
  cases eo : η.own? i with
  | none =>
    rw [eo] at p
    exact p.elim
  | some xs =>
    rw [eo] at p
    replace eo := own_of eo
    obtain ⟨z, vs, e1, e2, t, na, n0⟩ := own_at o eo
    refine ⟨.ref z, e1, .inl ⟨rfl, vs, Rd.sq (.inl e2)⟩, ?_⟩
    refine stE (F := fun w T => match w.seq T with
      | some ys => if xs.length + ys.length ≤ LL then .nx (η.put i (.own (xs ++ ys))) T else .no
      | none => .no) o p fun v w H1 ρ1 T1 o1 x1 r p1 => ?_
    obtain ⟨z', vs', e1', e2', t', na', n0'⟩ := own_at o1 eo
    rw [e1] at e1'
    cases e1'
    split at p1
    · rename_i ys ew
      split at p1
      · rename_i hz
        obtain ⟨b, us, rfl, hb, tb⟩ := seq_rd o1 r ew
        have lt := t'.len
        have lt2 := tb.len
        have hLL := LLs
        exact ⟨z, b, vs', us, rfl, rfl, e2', hb, by omega, p1 σ _ ρ1 (o1.setO eo e1 e2' (t'.app tb) na' n0' (own_lt eo)) (Firm.fx (.chg e2'))⟩
      · exact p1.elim
    · exact p1.elim
theorem asSub (h : ∀ a b c d, e2 ≠ .Slice a b c d) (v : Value) : assign (.Subscript e3 e2 p) X.env v = (do
      let ov ← holding [v] (eval e3 X.env)
      let iv ← holding [v, ov] (eval e2 X.env)
      standAt p
      holding [v, ov, iv] (setItem ov iv v)
      release [v, ov, iv] []) := by
  cases e2 <;> first | rfl | exact absurd rfl (h _ _ _ _)
theorem swSub {l : Nat} : swapsWithSole [.Subscript e3 e2 p] e1 l X.env = pure false ∧ swappedStores [.Subscript e3 e2 p] e1 X.env = pure none := by
  cases e1 <;> exact ⟨rfl, rfl⟩
theorem ss_setO (h : Cxt C c k bn W X) (hN : X.N[i]? = some x) (hv : Vis X.env.scope x) (hd : (x == ("__debug__" : Str)) = false) (hcd : (x == ("__classdict__" : Str)) = false) (hsl : ∀ a b c d, e2 ≠ .Slice a b c d) (ha : PE X e1 (tE C c W a)) (hb : PE X e2 (tE C c W b)) :
    PS X (.Assign [.Subscript (.Name x p) e2 p2] e1 pos) (tS C c W (.setO i b a)) := by
  refine PS.imp (ps_asg (PE.lockd ha) (pg_sub (pe_var hN hv hd hcd) hb set_list (asSub hsl)) swSub.1 (swSub (l := 0)).2 rfl) fun Dd σ H ⟨H0, ρ0, η, ρ, T, o, p⟩ => ?_
  rw [exS] at p
  cases eo : η.own? i with
  | none =>
    rw [eo] at p
    exact p.elim
  | some xs =>
    rw [eo] at p
    replace eo := own_of eo
    refine stD (F := fun d T => (evE c b η T).st fun k T => match k.i? with
        | some k => (match L2.ixN xs.length k with
          | some j => .nx (η.put i (.own (xs.set j d))) T
          | none => .no)
        | none => .no) o p fun v d H1 ρ1 T1 o1 x1 r p1 => ?_
    obtain ⟨z, vs, e1, e2, t, na, n0⟩ := own_at o1 eo
    refine ⟨.ref z, e1, ?_⟩
    refine stE (F := fun k T => match k.i? with
        | some k => (match L2.ixN xs.length k with
          | some j => .nx (η.put i (.own (xs.set j d))) T
          | none => .no)
        | none => .no) o1 p1 fun u w H2 ρ2 T2 o2 x2 r2 p2 => ?_
    obtain ⟨z', vs', e1', e2', t', na', n0'⟩ := own_at o2 eo
    rw [e1] at e1'
    cases e1'
    split at p2
    · rename_i kk ek
      obtain ⟨rfl, _⟩ := int_of r2 ek
      split at p2
      · rename_i j ej
        have lt := t'.len
        refine ⟨z, vs', kk, j, rfl, rfl, e2', by rw [lt]; exact ej, p2 σ _ ρ2 (o2.setO eo e1 e2' (t'.st j (Rep.mono o1.hp.sto.lists x2.keep x2.pre r)) na' n0' (own_lt eo)) (Firm.fx (.chg e2'))⟩
      · exact p2.elim
    · exact p2.elim
theorem stL_of {w : Ev.W} {n : Nat} {xs : List D} (h : stL T w = some (n, xs)) : w = .v (.loc n) ∧ T[n]? = some xs := by
  unfold stL at h
  split at h
  · split at h
    · rename_i e
      cases h
      exact ⟨rfl, e⟩
    · cases h
  · cases h
theorem ss_setL (hsl : ∀ a b c d, e2 ≠ .Slice a b c d) (ha : PE X e1 (tE C c W a)) (ho : PE X e3 (tE C c W d)) (hb : PE X e2 (tE C c W b)) : PS X (.Assign [.Subscript e3 e2 p2] e1 pos) (tS C c W (.setL d b a)) := by
  refine PS.imp (ps_asg (PE.lockd ha) (pg_sub ho hb set_list (asSub hsl)) swSub.1 (swSub (l := 0)).2 rfl) fun Dd σ H ⟨H0, ρ0, η, ρ, T, o, p⟩ => ?_
  refine stD (F := fun d' T => (evE c d η T).st fun x T => (evE c b η T).st fun k T => match k.i? with
      | some k => (match stL T x with
        | some (n, xs) => (match L2.ixN xs.length k with
          | some j => .nx η (T.set n (xs.set j d'))
          | none => .no)
        | none => .no)
      | none => .no) o p fun v d' H1 ρ1 T1 o1 x1 r p1 => ?_
  refine stE (F := fun x T => (evE c b η T).st fun k T => match k.i? with
      | some k => (match stL T x with
        | some (n, xs) => (match L2.ixN xs.length k with
          | some j => .nx η (T.set n (xs.set j d'))
          | none => .no)
        | none => .no)
      | none => .no) o1 p1 fun v2 w2 H2 ρ2 T2 o2 x2 r2 p2 => ?_
  refine stE (F := fun k T => match k.i? with
      | some k => (match stL T w2 with
        | some (n, xs) => (match L2.ixN xs.length k with
          | some j => .nx η (T.set n (xs.set j d'))
          | none => .no)
        | none => .no)
      | none => .no) o2 p2 fun v3 w3 H3 ρ3 T3 o3 x3 r3 p3 => ?_
  split at p3
  · rename_i kk ek
    obtain ⟨rfl, _⟩ := int_of r3 ek
    split at p3
    · rename_i n xs es
      obtain ⟨rfl, et⟩ := stL_of es
      split at p3
      · rename_i j ej
        have r2' := r2.mono o2.hp.sto.lists x3
        cases (show RepC C H3 ρ3 v2 (.loc n) from r2') with
        | @loc z _ er =>
          obtain ⟨vs, e2, t⟩ := o3.hp.sto.at_ n z xs er et
          have lt := t.len
          have l1 := o1.hp.sto.lists
          have x13 := x2.trans l1 x3
          obtain ⟨o4, x4⟩ := o3.setL er et e2 (t.st j (Rep.mono l1 x13.keep x13.pre r))
          exact ⟨z, vs, kk, j, rfl, rfl, e2, by rw [lt]; exact ej, p3 σ _ ρ3 o4 (x4.fx o3.hp.sto.lists)⟩
      · exact p3.elim
    · exact p3.elim
  · exact p3.elim
theorem ss_popO {apos : Pos} (h : Cxt C c k bn W X) (hN : X.N[i]? = some x) (hv : Vis X.env.scope x) (hd : (x == ("__debug__" : Str)) = false) (hcd : (x == ("__classdict__" : Str)) = false) (hl : (apos.endLine == p2.line) = true) :
    PS X (.Expr (.Call (.Attribute (.Name x p) "pop" apos) [] [] p2) pos) (tS C c W (.popO i)) := by
  refine PS.imp (ps_expr (pe_bm0 PySem.F.plainAttrs_list PySem.F.slot_list_pop PySem.F.type_list_pop mt_pop (pe_var hN hv hd hcd) rfl hl) rfl) fun Dd σ H ⟨H0, ρ0, η, ρ, T, o, p⟩ => ?_
  rw [exS] at p
  cases eo : η.own? i with
  | none =>
    rw [eo] at p
    exact p.elim
  | some xs =>
    rw [eo] at p
    replace eo := own_of eo
    obtain ⟨z, vs, e1, e2, t, na, n0⟩ := own_at o eo
    replace p : PoS C W H0 ρ0 H ρ (if xs = [] then .no else .nx (η.put i (.own xs.dropLast)) T) Dd := p
    split at p
    · exact p.elim
    · rename_i hne
      have lt := t.len
      have hp : 0 < xs.length := List.length_pos_iff.mpr hne
      refine ⟨.ref z, e1, .inl ⟨rfl, vs, Rd.sq (.inl e2)⟩, z, vs, vs[vs.length - 1], rfl, rfl, e2, List.getElem?_eq_getElem (by omega), ?_⟩
      exact p σ _ ρ (o.setO eo e1 e2 t.dl na n0 (own_lt eo)) (Firm.fx (.chg e2))
theorem se_pop {apos : Pos} (hbase : attributeBase e1 "pop" X.env (eval e1 X.env) = eval e1 X.env) (hl : (apos.endLine == pos.line) = true) (ha : PE X e1 (tE C c W a)) : PE X (.Call (.Attribute e1 "pop" apos) [] [] pos) (tE C c W (.pop a)) := by
  refine PE.imp (pe_bm0 PySem.F.plainAttrs_list PySem.F.slot_list_pop PySem.F.type_list_pop mt_pop ha hbase hl) fun σ H Q ⟨H0, ρ0, η, ρ, T, o, p⟩ => ?_
  refine split1 o p fun v w H1 ρ1 T1 o1 x1 r1 p1 => ?_
  split at p1
  · rename_i n
    split at p1
    · rename_i xs et
      split at p1
      · rename_i d ed
        cases (show RepC C H1 ρ1 v (.loc n) from r1) with
        | @loc z _ er =>
          obtain ⟨vs, e2, t⟩ := o1.hp.sto.at_ n z xs er et
          have lt := t.len
          rw [List.getLast?_eq_getElem?] at ed
          rw [← lt] at ed
          obtain ⟨u, eu, ru⟩ := t.at ed
          obtain ⟨o4, x4⟩ := o1.setL er et e2 t.dl
          exact ⟨.inl ⟨rfl, vs, Rd.sq (.inl e2)⟩, z, vs, u, rfl, rfl, e2, eu, p1 _ ρ1 o4 x4 _ (Rep.mono o1.hp.sto.lists x4.keep x4.pre ru)⟩
      · exact p1.elim
    · exact p1.elim
  · exact p1.elim
end
end Ev
namespace Ev
open PySem PySem.Spec PyProof.Rows L2
theorem kw_loop {β : Type} (f : Str × Value → (List (Str × Value)) × β → Sem (ForInStep ((List (Str × Value)) × β))) : ∀ (L : List (Str × Value)) (s : List (Str × Value)) (e : β),
    (∀ k v s e, (k, v) ∈ L → (s.lookup k).isSome = false → f (k, v) (s, e) = pure (.yield (s ++ [(k, v)], e))) →
    (L.map (·.1)).Nodup → (∀ k, k ∈ L.map (·.1) → (s.lookup k).isSome = false) → forIn L (s, e) f = pure (s ++ L, e)
  | [], s, e, _, _, _ => by
    rw [List.forIn_nil, List.append_nil]
  | (k, v) :: L, s, e, hf, nd, hn => by
    rw [List.forIn_cons, hf k v s e List.mem_cons_self (hn k (by simp))]
    rw [List.map_cons, List.nodup_cons] at nd
    show forIn L (s ++ [(k, v)], e) f = _
    rw [kw_loop f L (s ++ [(k, v)]) e (fun k v s e m => hf k v s e (List.mem_cons_of_mem _ m)) nd.2 fun k' m => ?_]
    · rw [List.append_assoc]
      rfl
    · have h1 := hn k' (List.mem_cons_of_mem _ m)
      rw [List.lookup_append]
      cases q : s.lookup k' with
      | some x =>
        rw [q] at h1
        cases h1
      | none =>
        have hne : (k' == k) = false := by
          refine beq_eq_false_iff_ne.mpr fun z => nd.1 ?_
          rw [← z]
          exact m
        simp [List.lookup, hne]
theorem lookup_zip {β : Type} : ∀ {ks : List Str} {ws : List β} {i : Nat} {k : Str} {w : β}, ks.Nodup → ks[i]? = some k → ws[i]? = some w → (ks.zip ws).lookup k = some w
  | [], _, _, _, _, _, h, _ => by simp at h
  | _ :: _, [], _, _, _, _, _, h => by simp at h
  | k :: ks, w :: ws, 0, k', w', nd, h1, h2 => by
    simp at h1 h2
    subst h1 h2
    simp [List.lookup]
  | k :: ks, w :: ws, i + 1, k', w', nd, h1, h2 => by
    rw [List.nodup_cons] at nd
    simp at h1 h2
    have hne : (k' == k) = false := by
      refine beq_eq_false_iff_ne.mpr fun z => nd.1 ?_
      rw [← z]
      exact List.mem_of_getElem? h1
    rw [List.zip_cons_cons, List.lookup_cons, hne]
    exact lookup_zip nd.2 h1 h2
theorem lookup_none {β : Type} : ∀ {ks : List Str} {ws : List β} {k : Str}, k ∉ ks.take ws.length → (ks.zip ws).lookup k = none
  | [], _, _, _ => rfl
  | _ :: _, [], _, _ => rfl
  | k :: ks, w :: ws, k', h => by
    rw [List.length_cons, List.take_succ_cons, List.mem_cons, not_or] at h
    rw [List.zip_cons_cons, List.lookup_cons, beq_eq_false_iff_ne.mpr h.1]
    exact lookup_none h.2
theorem filter_zip {β : Type} {L : List (Str × β)} : ∀ {ps : List Str} {zs : List β}, ps.length = zs.length → (∀ (j : Nat) (p : Str) (z : β), ps[j]? = some p → zs[j]? = some z → L.lookup p = some z) → ps.filterMap (fun n => (L.lookup n).map (n, ·)) = ps.zip zs
  | [], [], _, _ => rfl
  | [], _ :: _, h, _ => by cases h
  | _ :: _, [], h, _ => by cases h
  | p :: ps, z :: zs, hl, h => by
    rw [List.filterMap_cons, h 0 p z rfl rfl, List.zip_cons_cons]
    show (p, z) :: _ = _
    rw [filter_zip (Nat.succ.inj hl) fun j p z e1 e2 => h (j + 1) p z (by simpa using e1) (by simpa using e2)]
theorem bind_gen {fd : FuncData} {as : List Arg} {ps ks : List Str} {np : Nat} {perm : List Nat} {us ws zs : List Value} (hp : fd.params = ⟨[], as, none, [], [], none, []⟩) (hd : fd.defaults = .none) (ha : as.map (·.arg) = ps) (hk : kwOk ps np ks perm = true)
    (hu : us.length = np) (hw : ws.length = ks.length) (hz : perm.mapM (fun j => (us ++ ws)[j]?) = some zs) : bindArgs fd ⟨us, ks.zip ws⟩ = pure (ps.zip zs) := by
  unfold kwOk at hk
  simp only [Bool.and_eq_true, decide_eq_true_eq, List.all_eq_true, List.mem_range] at hk
  obtain ⟨⟨⟨⟨⟨k1, k2⟩, k3⟩, k4⟩, k5⟩, k6⟩ := hk
  have lz : zs.length = ps.length := by rw [mapM_len hz, k1]
  have key : (ks.zip ws).map (·.1) = ks := by
    rw [List.map_fst_zip]
    omega
  have dis : ∀ k, k ∈ ks → k ∈ ps ∧ k ∉ ps.take us.length := fun k m => by
    have h := k5 k m
    rw [List.contains_iff_mem] at h
    refine ⟨List.mem_of_mem_drop h, fun z => ?_⟩
    rw [hu] at z
    have nd := k4
    rw [← List.take_append_drop np ps, List.nodup_append] at nd
    exact nd.2.2 k z k h rfl
  have look : ∀ (j : Nat) (p : Str) (z : Value), ps[j]? = some p → zs[j]? = some z → (ps.zip us ++ ks.zip ws).lookup p = some z := fun j p z e1 e2 => by
    have hj : j < ps.length := (List.getElem?_eq_some_iff.mp e1).1
    have h6 := k6 j hj
    cases ep : perm[j]? with
    | none =>
      rw [ep] at h6
      cases h6
    | some i =>
      rw [ep] at h6
      have ez : (us ++ ws)[i]? = some z := by
        have : ∀ (perm : List Nat) (zs : List Value) (j i : Nat) (z : Value), perm.mapM (fun j => (us ++ ws)[j]?) = some zs → perm[j]? = some i → zs[j]? = some z → (us ++ ws)[i]? = some z := by
          intro perm
          induction perm with
          | nil => intro zs j i z _ h; simp at h
          | cons q perm ih =>
            intro zs j i z h h1 h2
            rw [List.mapM_cons] at h
            cases e1 : (us ++ ws)[q]? with
            | none =>
              rw [e1] at h
              cases h
            | some v =>
              rw [e1] at h
              cases e2 : perm.mapM (fun j => (us ++ ws)[j]?) with
              | none =>
                rw [e2] at h
                cases h
              | some zs' =>
                rw [e2] at h
                cases (show some (v :: zs') = some zs from h)
                cases j with
                | zero =>
                  simp at h1 h2
                  subst h1 h2
                  exact e1
                | succ j => exact ih zs' j i z e2 (by simpa using h1) (by simpa using h2)
        exact this perm zs j i z hz ep e2
      simp only at h6
      split at h6
      · rename_i hi
        have hij : i = j := of_decide_eq_true h6
        subst hij
        rw [List.getElem?_append_left (by omega)] at ez
        rw [List.lookup_append, lookup_zip k4 e1 ez]
        rfl
      · rename_i hi
        simp only [Bool.and_eq_true, decide_eq_true_eq] at h6
        rw [List.getElem?_append_right (by omega), hu] at ez
        have ek : ks[i - np]? = some p := h6.2.trans e1
        rw [List.lookup_append, lookup_none (dis p (List.mem_of_getElem? ek)).2]
        exact lookup_zip k3 ek ez
  unfold bindArgs
  rw [hp, hd]
  simp only [List.map_nil, List.nil_append, List.append_nil, ha]
  rw [kw_loop _ (ks.zip ws) (ps.zip us) _ (fun k v s e m hs => ?_) (by rw [key]; exact k3) (fun k m => ?_)]
  · have e0 : ∀ {α : Type} (f : Option (Array Value) → Sem α), (seqItems? Value.none >>= f) = f none := fun f => rfl
    have ez := filter_zip lz.symm look
    have nomiss : List.filter (fun n => (List.lookup n (ps.zip us ++ ks.zip ws)).isNone) (ps.take (ps.length - 0)) = [] := by
      rw [List.filter_eq_nil_iff]
      intro p mp
      have mp := List.mem_of_mem_take mp
      obtain ⟨j, hj⟩ := List.getElem?_of_mem mp
      have hj2 : j < zs.length := by
        rw [lz]
        exact (List.getElem?_eq_some_iff.mp hj).1
      rw [look j p zs[j] hj (List.getElem?_eq_getElem hj2)]
      simp
    simp only [pure_bind, e0, Option.getD_none]
    rw [if_neg (by simp; omega)]
    simp only [pure_bind, Array.toList_empty, List.drop_nil, List.length_nil]
    rw [nomiss]
    simp only [List.isEmpty_nil, Bool.not_true, Bool.false_eq_true, if_false, List.zip_nil_right, List.forIn_nil, pure_bind, ez]
  · have h1 := (dis k (by rw [← key]; exact List.mem_map_of_mem (f := (·.1)) m)).1
    have h2 : ps.contains k = true := List.contains_iff_mem.mpr h1
    simp only [h2, Bool.true_or, if_true, hs]
    rfl
  · rw [key] at m
    rw [lookup_none (dis k m).2]
    rfl
end Ev
namespace Ev
open PySem PySem.Spec PyProof.Rows L2
/-! ### the parts of an expression -/
def natsEq : List Nat → List Nat → Bool
  | [], [] => true
  | a :: as, b :: bs => Nat.beq a b && natsEq as bs
  | _, _ => false
theorem natsEq_iff : ∀ {a b : List Nat}, natsEq a b = true → a = b
  | [], [], _ => rfl
  | [], _ :: _, h => by cases h
  | _ :: _, [], h => by cases h
  | a :: as, b :: bs, h => by
    rw [natsEq, Bool.and_eq_true] at h
    rw [Nat.eq_of_beq_eq_true h.1, natsEq_iff h.2]
def sq (a b : Str) : Bool := natsEq a.cps.toList b.cps.toList
theorem sq_iff {a b : Str} (h : sq a b = true) : a = b := by
  obtain ⟨⟨a⟩⟩ := a
  obtain ⟨⟨b⟩⟩ := b
  have e : a = b := natsEq_iff h
  rw [e]
theorem natsEq_ne : ∀ {a b : List Nat}, natsEq a b = false → a ≠ b
  | [], _ :: _, _ => by simp
  | _ :: _, [], _ => by simp
  | [], [], h => by cases h
  | a :: as, b :: bs, h => by
    intro e
    cases e
    rw [natsEq, Bool.and_eq_false_iff] at h
    rcases h with h | h
    · have h2 : Nat.beq a a = true := Nat.beq_refl a
      rw [h2] at h
      cases h
    · exact natsEq_ne h rfl
theorem sq_ne {a b : Str} (h : sq a b = false) : a ≠ b := fun e => natsEq_ne h (by rw [e])
def lk : List (Str × NameKind) → Str → Option NameKind
  | [], _ => none
  | (y, k) :: r, x => if sq x y = true then some k else lk r x
theorem lk_eq {x : Str} : ∀ {l : List (Str × NameKind)}, lk l x = l.lookup x
  | [] => rfl
  | (y, k) :: r => by
    rw [lk, List.lookup_cons]
    cases h : sq x y with
    | true =>
      rw [sq_iff h]
      simp
    | false =>
      have : (x == y) = false := beq_eq_false_iff_ne.mpr (sq_ne h)
      rw [this]
      simpa using lk_eq
def mem (x : Str) : List Str → Bool
  | [] => false
  | y :: ys => sq x y || mem x ys
theorem mem_iff {x : Str} : ∀ {l : List Str}, mem x l = true → x ∈ l
  | [], h => by cases h
  | y :: ys, h => by
    rw [mem, Bool.or_eq_true] at h
    rcases h with h | h
    · rw [sq_iff h]
      exact List.mem_cons_self
    · exact List.mem_cons_of_mem _ (mem_iff h)
def at? (N : List Str) (i : Nat) (x : Str) : Bool := match N[i]? with
  | some y => sq y x
  | none => false
theorem at_iff {N : List Str} {i : Nat} {x : Str} (h : at? N i x = true) : N[i]? = some x := by
  unfold at? at h
  split at h
  · rename_i y e
    rw [e, sq_iff h]
  · cases h
def okNm (x : Str) : Bool := !(sq x "__debug__") && !(sq x "__classdict__") && !(sq x "__name__")
theorem okNm_iff {x : Str} (h : okNm x = true) : (x == ("__debug__" : Str)) = false ∧ (x == ("__classdict__" : Str)) = false ∧ x ≠ "__name__" := by
  unfold okNm at h
  simp only [Bool.and_eq_true, Bool.not_eq_true'] at h
  exact ⟨beq_eq_false_iff_ne.mpr (sq_ne h.1.1), beq_eq_false_iff_ne.mpr (sq_ne h.1.2), sq_ne h.2⟩
def visB (sc : Scope) (x : Str) : Bool := match lk sc.names x with
  | some .local => true
  | some .cell => true
  | some .free => true
  | _ => false
theorem visB_iff {sc : Scope} {x : Str} (h : visB sc x = true) : Vis sc x := by
  unfold visB at h
  rw [lk_eq] at h
  split at h
  · exact .inl (by assumption)
  · exact .inr (.inl (by assumption))
  · exact .inr (.inr (by assumption))
  · cases h
def glB (sc : Scope) (x : Str) : Bool := match lk sc.names x with
  | some .globalImplicit => true
  | _ => false
theorem glB_iff {X : Cx} {x : Str} (h : glB X.env.scope x = true) : Gl X x := by
  unfold glB at h
  rw [lk_eq] at h
  split at h
  · assumption
  · cases h
def locB (sc : Scope) (x : Str) : Bool := match lk sc.names x with
  | some .local => true
  | some .cell => true
  | _ => false
theorem locB_iff {sc : Scope} {x : Str} (h : locB sc x = true) : sc.names.lookup x = some .local ∨ sc.names.lookup x = some .cell := by
  unfold locB at h
  rw [lk_eq] at h
  split at h
  · exact .inl (by assumption)
  · exact .inr (by assumption)
  · cases h
def lclB (sc : Scope) (x : Str) : Bool := match lk sc.names x with
  | some .local => true
  | _ => false
theorem lclB_iff {sc : Scope} {x : Str} (h : lclB sc x = true) : sc.names.lookup x = some .local := by
  unfold lclB at h
  rw [lk_eq] at h
  split at h
  · assumption
  · cases h
def noStarB : Expr → Bool
  | .Starred _ _ => false
  | _ => true
theorem noStarB_iff {e : Expr} (h : noStarB e = true) : ∀ x p, e ≠ .Starred x p := fun x p z => by
  subst z
  cases h
def notSet : Expr → Bool
  | .Set _ _ _ => false
  | _ => true
theorem notSet_iff {e : Expr} (h : notSet e = true) {env : Env} : ∀ x, foldedSetIterable e env x = pure x := fun x => by
  cases e <;> first | rfl | cases h
def notSlice : Expr → Bool
  | .Slice _ _ _ _ => false
  | _ => true
theorem notSlice_iff {e : Expr} (h : notSlice e = true) : (∀ a b c d, e ≠ .Slice a b c d) ∧ PlainIx e := by
  refine ⟨fun a b c d z => ?_, fun o i => ?_⟩
  · subst z
    cases h
  · cases e <;> first | rfl | cases h
def notCall0 : Expr → Bool
  | .Call (.Name _ _) [] [] _ => false
  | _ => true
theorem base_of {e : Expr} (h : notCall0 e = true) {env : Env} {nm : Str} {whole : Sem Value} : attributeBase e nm env whole = whole := by
  unfold attributeBase
  split
  · cases h
  · rfl
def notMarks : Expr → Bool
  | .Set _ _ _ => false
  | _ => true
theorem noMarks {e : Expr} (h : notMarks e = true) (op : CmpOp) : behindInMarks op e = false := by
  cases e <;> first | rfl | cases h
def xName : Expr → Option Str
  | .Name x _ => some x
  | _ => none
theorem xName_iff {e : Expr} {x : Str} (h : xName e = some x) : ∃ p, e = .Name x p := by
  unfold xName at h
  split at h
  · cases h
    exact ⟨_, rfl⟩
  · cases h
def xCst : Expr → Option Const
  | .Constant c _ _ => some c
  | _ => none
theorem xCst_iff {e : Expr} {x : Const} (h : xCst e = some x) : ∃ j p, e = .Constant x j p := by
  unfold xCst at h
  split at h
  · cases h
    exact ⟨_, _, rfl⟩
  · cases h
def xTup : Expr → Option (List Expr)
  | .Tuple es _ _ => some es
  | _ => none
theorem xTup_iff {e : Expr} {x : List Expr} (h : xTup e = some x) : ∃ j p, e = .Tuple x j p := by
  unfold xTup at h
  split at h
  · cases h
    exact ⟨_, _, rfl⟩
  · cases h
def xLst : Expr → Option (List Expr)
  | .List es _ => some es
  | _ => none
theorem xLst_iff {e : Expr} {x : List Expr} (h : xLst e = some x) : ∃ p, e = .List x p := by
  unfold xLst at h
  split at h
  · cases h
    exact ⟨_, rfl⟩
  · cases h
def xBin : Expr → Option (Expr × Operator × Expr)
  | .BinOp a o b _ => some (a, o, b)
  | _ => none
theorem xBin_iff {e a b : Expr} {o : Operator} (h : xBin e = some (a, o, b)) : ∃ p, e = .BinOp a o b p := by
  unfold xBin at h
  split at h
  · cases h
    exact ⟨_, rfl⟩
  · cases h
def xUn : Expr → Option (UnaryOp × Expr)
  | .UnaryOp o a _ => some (o, a)
  | _ => none
theorem xUn_iff {e a : Expr} {o : UnaryOp} (h : xUn e = some (o, a)) : ∃ p, e = .UnaryOp o a p := by
  unfold xUn at h
  split at h
  · cases h
    exact ⟨_, rfl⟩
  · cases h
def xCmp1 : Expr → Option (Expr × CmpOp × Expr)
  | .Compare a [o] [b] _ => some (a, o, b)
  | _ => none
theorem xCmp1_iff {e a b : Expr} {o : CmpOp} (h : xCmp1 e = some (a, o, b)) : ∃ p, e = .Compare a [o] [b] p := by
  unfold xCmp1 at h
  split at h
  · cases h
    exact ⟨_, rfl⟩
  · cases h
def xCmp2 : Expr → Option (Expr × CmpOp × Expr × CmpOp × Expr)
  | .Compare a [o, o2] [b, c] _ => some (a, o, b, o2, c)
  | _ => none
theorem xCmp2_iff {e a b c : Expr} {o o2 : CmpOp} (h : xCmp2 e = some (a, o, b, o2, c)) : ∃ p, e = .Compare a [o, o2] [b, c] p := by
  unfold xCmp2 at h
  split at h
  · cases h
    exact ⟨_, rfl⟩
  · cases h
def xBool : Expr → Option (BoolOp × Expr × Expr × List Expr × Pos)
  | .BoolOp op (a :: b :: r) p => some (op, a, b, r, p)
  | _ => none
theorem xBool_iff {e a b : Expr} {o : BoolOp} {r : List Expr} {p : Pos} (h : xBool e = some (o, a, b, r, p)) : e = .BoolOp o (a :: b :: r) p := by
  unfold xBool at h
  split at h
  · cases h
    rfl
  · cases h
def xIf : Expr → Option (Expr × Expr × Expr)
  | .IfExp a b c _ => some (a, b, c)
  | _ => none
theorem xIf_iff {e a b c : Expr} (h : xIf e = some (a, b, c)) : ∃ p, e = .IfExp a b c p := by
  unfold xIf at h
  split at h
  · cases h
    exact ⟨_, rfl⟩
  · cases h
def xSub : Expr → Option (Expr × Expr)
  | .Subscript a b _ => some (a, b)
  | _ => none
theorem xSub_iff {e a b : Expr} (h : xSub e = some (a, b)) : ∃ p, e = .Subscript a b p := by
  unfold xSub at h
  split at h
  · cases h
    exact ⟨_, rfl⟩
  · cases h
def xSl : Expr → Option (Expr × Option Expr × Option Expr)
  | .Subscript a (.Slice l h none _) _ => some (a, l, h)
  | _ => none
theorem xSl_iff {e a : Expr} {l u : Option Expr} (h : xSl e = some (a, l, u)) : ∃ p p2, e = .Subscript a (.Slice l u none p) p2 := by
  unfold xSl at h
  split at h
  · cases h
    exact ⟨_, _, rfl⟩
  · cases h
def xCall : Expr → Option (Str × List Expr × List Keyword)
  | .Call (.Name x _) es kws _ => some (x, es, kws)
  | _ => none
theorem xCall_iff {e : Expr} {x : Str} {es : List Expr} {kws : List Keyword} (h : xCall e = some (x, es, kws)) : ∃ p p2, e = .Call (.Name x p) es kws p2 := by
  unfold xCall at h
  split at h
  · cases h
    exact ⟨_, _, rfl⟩
  · cases h
def xMeth : Expr → Option (Expr × Str × List Expr × Bool)
  | .Call (.Attribute o nm ap) es [] p => some (o, nm, es, ap.endLine == p.line)
  | _ => none
theorem xMeth_iff {e o : Expr} {x : Str} {es : List Expr} {b : Bool} (h : xMeth e = some (o, x, es, b)) : ∃ ap p, e = .Call (.Attribute o x ap) es [] p ∧ (ap.endLine == p.line) = b := by
  unfold xMeth at h
  split at h
  · cases h
    exact ⟨_, _, rfl, rfl⟩
  · cases h
def xLc : Expr → Option (Expr × Expr × Expr × List Expr × Scope × Pos)
  | .ListComp e [⟨t, it, ifs, a⟩] sc p => if a = 0 then some (e, t, it, ifs, sc, p) else none
  | _ => none
theorem xLc_iff {e a b c : Expr} {ifs : List Expr} {sc : Scope} {p : Pos} (h : xLc e = some (a, b, c, ifs, sc, p)) : e = .ListComp a [⟨b, c, ifs, 0⟩] sc p := by
  unfold xLc at h
  split at h
  · split at h
    · rename_i e0
      subst e0
      cases h
      rfl
    · cases h
  · cases h
def isTupB : Expr → Bool
  | .Tuple _ _ _ => true
  | _ => false
theorem isTupB_iff {e : Expr} (h : isTupB e = true) : ∃ es k p, e = .Tuple es k p := by
  unfold isTupB at h
  split at h
  · exact ⟨_, _, _, rfl⟩
  · cases h
def cstB : D → Const → Bool
  | .non, .none => true
  | .bl b, .bool c => b == c
  | .int i, .int j => decide (i = j)
  | .str x, .str y => sq x y
  | _, _ => false
end Ev
namespace Ev
open PySem PySem.Spec PyProof.Rows L2
/-! ### what an except suite asks of its error -/
def clsW (G : Nat → Addr) (i : Nat) (cd : Cl) : V := match cd.bt with
  | some n => .ty n
  | none => .ref (G (5000 + i))
theorem clsW_rel {G : Nat → Addr} {i : Nat} {cd : Cl} : ∀ u, RelV (clsW G i cd) u ↔ u = clsV G i cd := fun u => by
  unfold clsW clsV
  cases cd.bt <;> exact Iff.rfl
section
variable {C : Cfg} {c : Call} {W : WX} {X : Cx} {k : Nat} {bn : Bn} {i q0 : Nat} {cs q : List Nat} {nm : Str} {p p1 p2 pos : Pos} {cd : Cl}
/-- a class, by its name -/
theorem pe_cls (h : Cxt C c k bn W X) (hq : bn.cl[q0]? = some cd) (hg : Gl X cd.name) : PE X (.Name cd.name p) (tC (clsW C.G q0 cd)) := by
  have z := h.cls q0 cd hq
  unfold clsW
  cases e : cd.bt with
  | none => exact pe_glob hg (z.own e) rfl z.nm.1
  | some n =>
    obtain ⟨b1, b2⟩ := z.blt n e
    exact pe_bltn hg b1 b2 rfl z.nm.2 z.nm.1
theorem isE_go {H0 H : Hp} {ρ0 ρ : List Addr} {σ : L2.St} {η : En} {T : Sto} {cc : Nat} {pl : Option (Str × D)} (o : OkC C H0 ρ0 H ρ σ η T) (e : η.get i = .err cc pl) : σ[i]? = some (some (.ref (C.G 4096))) ∧ C.G 4100 = cc ∧ ∀ d : Option Addr, (d = if C.G 4099 = 0 then none else some (C.G 4097)) → ∀ dd, d = some dd → ∃ fs, H dd = some (.xd fs) := by
  have s := o.slot i
  rw [e] at s
  obtain ⟨s1, s2, s3, s4⟩ := s
  refine ⟨s1, s2, fun d ed dd e2 => ?_⟩
  rw [e2] at ed
  split at ed
  · cases ed
  · rename_i hne
    cases ed
    cases pl with
    | none => exact (hne (s3 rfl)).elim
    | some p =>
      obtain ⟨_, fs, v, z, _⟩ := s4 p.1 p.2 rfl
      exact ⟨fs, z⟩
/-- isinstance(e, C) -/
theorem se_isE (h : Cxt C c k bn W X) (he : bn.er = some nm) (hN : X.N[i]? = some nm) (hv : Vis X.env.scope nm) (hd : (nm == ("__debug__" : Str)) = false) (hcd : (nm == ("__classdict__" : Str)) = false)
    (hf : ("isinstance" : Str) ∈ bn.l) (hg : Gl X "isinstance") (hq : bn.cl[q0]? = some cd) (hgc : Gl X cd.name) (hcs : ∀ j cj, bn.cl[j]? = some cj → cs.contains j = cj.sup.contains q0) :
    PE X (.Call (.Name "isinstance" p) [.Name nm p1, .Name cd.name p2] [] pos) (tE C c W (.isE i cs [q0] true)) := by
  obtain ⟨X0, a, oe, d, pn, ce, eX, ea, hz, hfl, hce, hbt, hdd⟩ := (h.er nm he).ex
  have z := h.cls _ ce hce
  have isc := z.isc hbt
  have cal : CallR X (.builtin "isinstance") (XR.rIsX X.K (C.G (5000 + C.G 4100)) a d) := by
    subst eX
    exact XR.call_isX isc hz hfl
  refine PE.imp (pe_callB cal hg (h.free _ hf) (by kernel_rfl) (pa_cons (pe_var hN hv hd hcd) (pa_cons (pe_cls h hq hgc) pa_nil rfl) rfl) (by decide) (by decide) rfl rfl) fun σ H Q ⟨H0, ρ0, η, ρ, T, o, p⟩ => ?_
  rw [evE] at p
  split at p
  · rename_i cc pl e
    obtain ⟨s1, s2, s3⟩ := isE_go o e
    refine ⟨.ref (C.G 4096), s1, ?_⟩
    refine ⟨clsW C.G q0 cd, cs.contains cc, by rw [ea], s3 d hdd, .inl ⟨clsV C.G q0 cd, fun u r => (clsW_rel u).mp r, ?_⟩, p H ρ o .refl _ (.bl _)⟩
    rw [← s2, hcs _ ce hce]
    exact (z.sub hbt q0 cd hq).1
  · exact p.elim
/-- e.f -/
theorem se_fldE {f : Str} (h : Cxt C c k bn W X) (he : bn.er = some nm) (hN : X.N[i]? = some nm) (hv : Vis X.env.scope nm) (hd : (nm == ("__debug__" : Str)) = false) (hcd : (nm == ("__classdict__" : Str)) = false)
    {ci : Cl} (hi : ci ∈ bn.cl) (hif : ci.fld = some f) : PE X (.Attribute (.Name nm p1) f pos) (tE C c W (.fldE i f)) := by
  obtain ⟨X0, a, oe, d, pn, ce, eX, ea, hz, hfl, hce, hbt, hdd⟩ := (h.er nm he).ex
  obtain ⟨x1, x2⟩ := (h.cls _ ce hce).xf hbt
  have r : PE X (.Attribute (.Name nm p1) f pos) (tXf a (.ref (C.G (5000 + C.G 4100))) d (C.G (5000 + C.G 4100)) f (tVar i)) := by
    have hv' := pe_var (X := X) (pos := p1) hN hv hd hcd
    subst eX
    exact pe_xf x1 (x2 ci hi f hif) hz hfl hv' rfl
  refine PE.imp r fun σ H Q ⟨H0, ρ0, η, ρ, T, o, p⟩ => ?_
  rw [evE] at p
  split at p
  · rename_i cc f' y e
    split at p
    · rename_i ef
      subst ef
      have s := o.slot i
      rw [e] at s
      obtain ⟨s1, s2, s3, s4⟩ := s
      obtain ⟨hz0, fs, v, z1, z2, z3⟩ := s4 _ y rfl
      have hne : d = some (C.G 4097) := by
        rw [hdd, if_neg hz0]
      refine ⟨.ref (C.G 4096), s1, by rw [ea], rfl, C.G 4097, fs, v, hne, z1, z2, p H ρ o .refl v z3⟩
    · exact p.elim
  · exact p.elim
/-! ### raise -/
theorem del_upd {H : Hp} {a : Addr} {o : HO} (n : H a = none) : del (upd H a o) a = H := by
  funext b
  by_cases hb : b = a
  · subst hb
    rw [del_same, n]
  · rw [del_ne hb, upd_ne hb]
theorem pass_no {P : Program} {w : World} {X : Cx} : Passes (L2.CX P w) X (fun _ _ _ => False) := fun pins σ H s e s' _ ⟨_, _, _, _, _, _, _, _, _, _, _, _, z⟩ => z.elim
theorem ss_raise0 {j : Nat} (h : Cxt C c k bn W X) (hz : bn.er = none) (hq : bn.cl[j]? = some cd) (hbt : cd.bt = none) (hini : cd.ini = true) (hf : cd.fld = none) (hg : Gl X cd.name) :
    PS X (.Raise (some (.Call (.Name cd.name p) [] [] p2)) none pos) (tS C c W (.raise j none [])) := by
  have z := h.cls j cd hq
  obtain ⟨fI, fd, sf, T, iC, tI, F1, hb⟩ := z.mk0 hini hf
  have k2 := h.k2
  have ek : k - 1 + 1 = k := by omega
  refine PS.imp (ps_raise (h.calm hz) h.tk (XR.pmk_oexN T iC tI F1 (by rw [ek]; exact h.room hz) hb pass_no hg (z.own hbt) z.nm.1)) fun Dd σ H ⟨H0, ρ0, η, ρ, T, o, p⟩ => ?_
  intro a ha
  refine ⟨a, rfl, upd_same, rfl, upd_same, ?_⟩
  rw [del_upd ha]
  rw [exS, evDs] at p
  exact p _ none σ η H ρ o .refl ((h.hex hz _ _ _ _ _ _).mpr ⟨cd, hq, hbt, rfl, .inl ⟨rfl, rfl⟩⟩)
theorem ss_raise1 {j : Nat} {f : Str} {e1 : Expr} {a1 : E} (h : Cxt C c k bn W X) (hz : bn.er = none) (hq : bn.cl[j]? = some cd) (hbt : cd.bt = none) (hini : cd.ini = true) (hf : cd.fld = some f) (hg : Gl X cd.name) (hs : ∀ x p, e1 ≠ .Starred x p) (ha : PA X [e1] (tA C c W [a1])) :
    PS X (.Raise (some (.Call (.Name cd.name p) [e1] [] p2)) none pos) (tS C c W (.raise j (some f) [a1])) := by
  have z := h.cls j cd hq
  obtain ⟨fI, fd, sf, x, T, iC, tI, F1, hb⟩ := z.mk1 hini f hf
  have k2 := h.k2
  have ek : k - 1 + 1 = k := by omega
  refine PS.imp (ps_raise (h.calm hz) h.tk (pmk_oex (dvs := []) (ds := []) T iC tI F1 (by rw [ek]; exact h.room hz) hb .nil pass_no hg (z.own hbt) ha z.nm.1 (starOf hs) rfl)) fun Dd σ H ⟨H0, ρ0, η, ρ, T, o, p⟩ => ?_
  rw [exS] at p
  refine ⟨H0, ρ0, η, ρ, T, o, (PoS.st o.hp.sto.lists p).mono fun ds T1 H1 ρ1 ev _ _ ⟨o1, x1, p1⟩ vs t => ?_⟩
  have hl := t.len
  rw [evDs_len ev] at hl
  obtain ⟨y, d, rfl, rfl, r1⟩ : ∃ y d, vs = [y] ∧ ds = [d] ∧ RepC C H1 ρ1 y d := by
    cases t with
    | nil => cases hl
    | cons r t =>
      cases t with
      | nil => exact ⟨_, _, rfl, rfl, r⟩
      | cons _ _ => cases hl
  refine ⟨by show 1 ≤ 1000; omega, fun a na => ⟨a, y, rfl, upd_same, fun dx ndx hne => ⟨rfl, dx, [(f, y)], upd_same, ?_, ?_, ?_⟩⟩⟩
  · rw [upd_ne hne, upd_same]
  · rw [upd_ne hne] at ndx
    exact ndx
  · have ndx' : H1 dx = none := by
      rw [upd_ne hne] at ndx
      exact ndx
    have eH : upd (del (upd (upd (upd H1 a (exo a (C.G (5000 + j)) none)) dx (exd dx [(f, y)])) a (exo a (C.G (5000 + j)) (some dx))) a) dx (.xd [(f, y)]) = upd H1 dx (.xd [(f, y)]) := by
      funext b
      by_cases hb : b = dx
      · subst hb
        rw [upd_same, upd_same]
      · rw [upd_ne hb, upd_ne hb]
        by_cases hba : b = a
        · subst hba
          rw [del_same, na]
        · rw [del_ne hba, upd_ne hba, upd_ne hb, upd_ne hba]
    rw [eH]
    have o2 := o1.grow (upd_grow (o := .xd [(f, y)]) ndx')
    refine p1 _ (some dx) σ η (upd H1 dx (.xd [(f, y)])) ρ1 o2 ?_ ((h.hex hz _ _ _ _ _ _).mpr ⟨cd, hq, hbt, rfl, .inr ⟨f, d, dx, [(f, y)], y, rfl, rfl, upd_same, by simp [List.lookup], ?_⟩⟩)
    · exact (x1.fx o.hp.sto.lists).trans ⟨fun b u e _ => upd_grow ndx' b u e, fun _ _ e => e⟩
    · exact r1.firm (fun b u e _ => upd_grow ndx' b u e) fun _ _ e => e
end
end Ev
namespace Ev
open PySem PySem.Spec PyProof.Rows L2
/-! ### the checker: an expression of the program is this one of the evaluator -/
mutual
def ckG (N : List Str) (sc : Scope) : Tg → Expr → Bool
  | .var i, e => match xName e with
    | some x => at? N i x && locB sc x
    | none => false
  | .tup ts, e => match xTup e with
    | some es => ckGs N sc ts es
    | none => false
def ckGs (N : List Str) (sc : Scope) : List Tg → List Expr → Bool
  | [], [] => true
  | t :: ts, e :: es => noStarB e && ckG N sc t e && ckGs N sc ts es
  | _, _ => false
end
def valB : Expr → Bool
  | .UnaryOp .Not _ _ => false
  | .BoolOp _ _ _ => false
  | .IfExp _ _ _ _ => false
  | .Compare _ _ _ _ => false
  | _ => true
theorem valB_iff {e : Expr} (h : valB e = true) {env : Env} : ∀ whole, isTrue e env whole = (do let v ← whole; standAt e.pos; holding [v] (truthy v)) := fun whole => by
  cases e with
  | UnaryOp op a p => cases op <;> first | rfl | cases h
  | _ => first | rfl | cases h
def nmIs (bn : Bn) (sc : Scope) (x : Str) (y : Str) : Bool := sq x y && mem x bn.l && glB sc x
/-- no except suite -/
def cold (bn : Bn) : Bool := match bn.er with
  | none => true
  | some _ => false
theorem cold_iff {bn : Bn} (h : cold bn = true) : bn.er = none := by
  unfold cold at h
  split at h
  · assumption
  · cases h
def nin (l : List Nat) (i : Nat) : Bool := l.contains i
/-- cs: the classes that are one of q -/
def csB (cl : List Cl) (cs : List Nat) (q0 : Nat) : Bool := (List.range cl.length).all fun j => match cl[j]? with
  | some cj => cs.contains j == cj.sup.contains q0
  | none => true
theorem csB_iff {cl : List Cl} {cs : List Nat} {q0 : Nat} (h : csB cl cs q0 = true) : ∀ j cj, cl[j]? = some cj → cs.contains j = cj.sup.contains q0 := fun j cj e => by
  have hl : j < cl.length := (List.getElem?_eq_some_iff.mp e).1
  have := List.all_eq_true.mp h j (List.mem_range.mpr hl)
  rw [e] at this
  exact eq_of_beq this
def clsB (bn : Bn) (sc : Scope) (q0 : Nat) (cs : List Nat) (e : Expr) : Bool := match bn.cl[q0]?, xName e with
  | some cd, some u => sq u cd.name && glB sc u && csB bn.cl cs q0
  | _, _ => false
def fldB (cl : List Cl) (f : Str) : Bool := cl.any fun cd => match cd.fld with
  | some g => sq g f
  | none => false
theorem fldB_iff {cl : List Cl} {f : Str} (h : fldB cl f = true) : ∃ ci, ci ∈ cl ∧ ci.fld = some f := by
  obtain ⟨ci, m, e⟩ := List.any_eq_true.mp h
  split at e
  · rename_i g eg
    exact ⟨ci, m, by rw [eg, sq_iff e]⟩
  · cases e
def xAttr : Expr → Option (Expr × Str)
  | .Attribute o f _ => some (o, f)
  | _ => none
theorem xAttr_iff {e o : Expr} {f : Str} (h : xAttr e = some (o, f)) : ∃ p, e = .Attribute o f p := by
  unfold xAttr at h
  split at h
  · cases h
    exact ⟨_, rfl⟩
  · cases h
def erB (bn : Bn) (N : List Str) (sc : Scope) (i : Nat) (y : Expr) : Bool := match bn.er, xName y with
  | some nm, some u => sq u nm && at? N i nm && visB sc nm && okNm nm
  | _, _ => false
def b1Nm (b : B1) (x : Str) : Bool := match b.nm with
  | some (y, _) => sq x y
  | none => false
def isRev : B1 → Bool
  | .rev => true
  | _ => false
def tyNm (t : Ty) (x : Str) : Bool := match t with
  | .int => sq x "int" | .bool => sq x "bool" | .str => sq x "str" | .tuple => sq x "tuple" | .list => sq x "list"
def opB : Operator → Operator → Bool := fun a b => decide (a = b)
def cmpB : CmpOp → CmpOp → Bool := fun a b => decide (a = b)
def ownL (N : List Str) (vs : List Nat) : List (Str × Nat) := vs.map fun v => (N.getD v ⟨#[]⟩, v)
def isEB (bn : Bn) (N : List Str) (sc : Scope) (i : Nat) (cs q : List Nat) (one : Bool) (e : Expr) : Bool := match q with
  | [q0] => one && (match xCall e with
    | some (x, [y, z], []) => nmIs bn sc x "isinstance" && erB bn N sc i y && clsB bn sc q0 cs z
    | _ => false)
  | _ => false
def fldEB (bn : Bn) (N : List Str) (sc : Scope) (i : Nat) (f : Str) (e : Expr) : Bool := match xAttr e with
  | some (o, f') => sq f' f && erB bn N sc i o && fldB bn.cl f
  | none => false
section
variable (tab : List Fd) (bn : Bn) (N : List Str)
def fnIs (sc : Scope) (f : Nat) (x : Str) (n : Nat) : Bool := match tab[f]? with
  | some fd => sq x fd.name && glB sc x && okNm x && Nat.beq fd.ps.length n
  | none => false
def kwIs (f np : Nat) (perm : List Nat) (kws : List Keyword) : Bool := match tab[f]? with
  | some fd => kwOk fd.ps np (kws.filterMap (·.arg)) perm
  | none => false
mutual
def ckE (sc : Scope) : E → Expr → Bool
  | .var i, e => match xName e with
    | some x => at? N i x && visB sc x && okNm x
    | none => false
  | .cst d, e => match xCst e with
    | some c => cstB d c
    | none => false
  | .gint _ _, _ => false
  | .gfn f, e => match xName e with
    | some x => (match tab[f]? with
      | some fd => Nat.blt f 4096 && sq x fd.name && glB sc x && okNm x
      | none => false)
    | none => false
  | .tup es, e => match xTup e with
    | some xs => decide (es.length ≤ LL) && ckL sc es xs
    | none => false
  | .lst es, e => match xLst e with
    | some xs => decide (es.length ≤ LL) && ckL sc es xs
    | none => false
  | .bin op a b, e => match xBin e with
    | some (x, o, y) => opB op o && ckE sc a x && ckE sc b y
    | none => false
  | .neg a, e => match xUn e with
    | some (.USub, x) => ckE sc a x
    | _ => false
  | .cmp op a b, e => match xCmp1 e with
    | some (x, o, y) => cmpB op o && notMarks y && ckE sc a x && ckE sc b y
    | none => false
  | .chain op op2 a b d, e => match xCmp2 e with
    | some (x, o, y, o2, z) => cmpB op o && cmpB op2 o2 && !(lastMarks [o, o2] [y, z]) && ckE sc a x && ckE sc b y && ckE sc d z
    | none => false
  | .and a b, e => match xBool e with
    | some (.And, x, y, [], _) => ckE sc a x && ckE sc b y
    | some (.And, x, y, r, p) => ckE sc a x && ckE sc b (.BoolOp .And (y :: r) p)
    | _ => false
  | .or a b, e => match xBool e with
    | some (.Or, x, y, [], _) => ckE sc a x && ckE sc b y
    | some (.Or, x, y, r, p) => ckE sc a x && ckE sc b (.BoolOp .Or (y :: r) p)
    | _ => false
  | .not a, e => match xUn e with
    | some (.Not, x) => ckE sc a x
    | _ => false
  | .ife t a b, e => match xIf e with
    | some (x, y, z) => ckE sc t x && ckE sc a y && ckE sc b z
    | none => false
  | .ix a i, e => match xSub e with
    | some (x, y) => notSlice y && ckE sc a x && ckE sc i y
    | none => false
  | .sl a lo hi, e => match xSl e with
    | some (x, l, h) => ckE sc a x && ckO sc lo l && ckO sc hi h
    | none => false
  | .call f es, e => match xCall e with
    | some (x, xs, []) => cold bn && (fnIs tab sc f x es.length && ckL sc es xs)
    | _ => false
  | .callK f np perm es, e => match xCall e with
    | some (x, xs, kws) => cold bn && fnIs tab sc f x es.length && Nat.beq xs.length np && kwIs tab f np perm kws && (kws.all fun k => k.arg.isSome) && ckL sc es (xs ++ kws.map (·.value))
    | none => false
  | .b1 b a, e => match xCall e with
    | some (x, [y], []) => cold bn && ((b1Nm b x && mem x bn.l && glB sc x && noStarB y && ckE sc a y) || (isRev b && nmIs bn sc x "list" && match xCall y with
      | some (x2, [z], []) => nmIs bn sc x2 "reversed" && noStarB z && ckE sc a z
      | _ => false))
    | _ => false
  | .b2 b a1 a2, e => match xCall e with
    | some (x, [y, z], []) => cold bn && nmIs bn sc x b.nm && noStarB y && noStarB z && ckE sc a1 y && ckE sc a2 z
    | _ => false
  | .isi a t, e => match xCall e with
    | some (x, [y, z], []) => nmIs bn sc x "isinstance" && noStarB y && ckE sc a y && (match xName z with
      | some u => tyNm t u && mem u bn.l && glB sc u
      | none => false)
    | _ => false
  | .bitlen a, e => match xMeth e with
    | some (o, x, [], true) => sq x "bit_length" && notCall0 o && ckE sc a o
    | _ => false
  | .lc elt tg it cn vs, e => match xLc e with
    | some (x, t, i, ifs, scope, _) => cold bn && notSet i && blkC N sc scope (ownL N vs) && tgIn tg vs && ckG N scope tg t && ckI sc it t i && ckE (relS scope sc) elt x && ckC (relS scope sc) cn ifs
    | none => false
  | .pop o, e => match xMeth e with
    | some (x, y, [], true) => sq y "pop" && notCall0 x && ckE sc o x
    | _ => false
  | .share a, e => valB e && ckE sc a e
  | .isE i cs q one, e => isEB bn N sc i cs q one e
  | .fldE i f, e => fldEB bn N sc i f e
  | .rng _ _, _ => false
  | .enum _, _ => false
  | .zip _, _ => false
  | .rvd _, _ => false
  | .sq _, _ => false
def ckO (sc : Scope) : Option E → Option Expr → Bool
  | none, none => true
  | some a, some e => ckE sc a e
  | _, _ => false
def ckC (sc : Scope) : Option E → List Expr → Bool
  | none, [] => true
  | some a, [e] => ckE sc a e
  | _, _ => false
def ckL (sc : Scope) : List E → List Expr → Bool
  | [], [] => true
  | a :: as, e :: es => noStarB e && ckE sc a e && ckL sc as es
  | _, _ => false
def ckI (sc : Scope) : E → Expr → Expr → Bool
  | .rng none hi, _, e => match xCall e with
    | some (x, [y], []) => nmIs bn sc x "range" && noStarB y && ckE sc hi y
    | _ => false
  | .rng (some lo) hi, _, e => match xCall e with
    | some (x, [y, z], []) => nmIs bn sc x "range" && noStarB y && noStarB z && ckE sc lo y && ckE sc hi z
    | _ => false
  | .enum a, t, e => isTupB t && match xCall e with
    | some (x, [y], []) => nmIs bn sc x "enumerate" && noStarB y && ckE sc a y
    | _ => false
  | .zip [a, b], t, e => isTupB t && match xCall e with
    | some (x, [y, z], []) => nmIs bn sc x "zip" && noStarB y && noStarB z && ckE sc a y && ckE sc b z
    | _ => false
  | .rvd a, _, e => match xCall e with
    | some (x, [y], []) => nmIs bn sc x "reversed" && noStarB y && ckE sc a y
    | _ => false
  | .sq a, _, e => ckE sc a e
  | _, _, _ => false
end
end
/-! ### its soundness -/
/-- a context with what the checker knows of it -/
structure CX1 (C : Cfg) (c : Call) (k : Nat) (bn : Bn) (N : List Str) (W : WX) (sc : Scope) (X : Cx) : Prop where
  cx : Cxt C c k bn W X
  sc : X.env.scope = sc
  N : X.N = N
section
variable {C : Cfg} {c : Call} {W : WX} {X : Cx} {tab : List Fd} {bn : Bn} {N : List Str} {k : Nat} {sc : Scope}
mutual
theorem ckG_ok {sc0 : Scope} (hc : X.calm = true) (hK : X.K = C.K) (hn : X.N.Nodup) (hN : X.N = N) (hl : ∀ x, locB sc0 x = true → Loc X.env.scope x ∧ (X.fn x = true ∨ X.env.scope.names.lookup x = some .local)) : ∀ {t : Tg} {e : Expr}, ckG N sc0 t e = true → PG X e (tG C t)
  | .var i, e, h => by
    rw [ckG] at h
    split at h
    · rename_i x ex
      obtain ⟨p, rfl⟩ := xName_iff ex
      rw [Bool.and_eq_true] at h
      obtain ⟨h1, h2⟩ := hl x h.2
      exact sg_var hn (hN ▸ at_iff h.1) h1 h2
    · cases h
  | .tup ts, e, h => by
    rw [ckG] at h
    split at h
    · rename_i es ex
      obtain ⟨j, p, rfl⟩ := xTup_iff ex
      obtain ⟨h1, h2, h3, h4⟩ := ckGs_ok hc hK hn hN hl h
      exact sg_tup (n := ts.length) hc hK rfl h2 h3 h1
    · cases h
theorem ckGs_ok {sc0 : Scope} (hc : X.calm = true) (hK : X.K = C.K) (hn : X.N.Nodup) (hN : X.N = N) (hl : ∀ x, locB sc0 x = true → Loc X.env.scope x ∧ (X.fn x = true ∨ X.env.scope.names.lookup x = some .local)) : ∀ {ts : List Tg} {es : List Expr}, ckGs N sc0 ts es = true → PGs X es (tGs C ts) ∧ (assignEach es X.env).length = ts.length ∧ (assignEach es X.env).findIdx? (·.1) = none ∧ True
  | [], [], _ => ⟨sgs_nil, rfl, rfl, trivial⟩
  | [], _ :: _, h => by simp [ckGs] at h
  | _ :: _, [], h => by simp [ckGs] at h
  | t :: ts, e :: es, h => by
    rw [ckGs, Bool.and_eq_true, Bool.and_eq_true] at h
    obtain ⟨h1, h2, h3, _⟩ := ckGs_ok hc hK hn hN hl h.2
    have h4 := ckG_ok hc hK hn hN hl h.1.2
    have hs := noStarB_iff h.1.1
    have ea : assignEach (e :: es) X.env = (false, assign e X.env) :: assignEach es X.env := by
      cases e <;> first | rfl | exact absurd rfl (hs _ _)
    refine ⟨sgs_cons (by rw [ea]; rfl) h4 h1, by rw [ea, List.length_cons, h2]; rfl, ?_, trivial⟩
    rw [ea, List.findIdx?_cons]
    show (if false = true then _ else _) = _
    rw [if_neg (by decide), h3]
    rfl
end
theorem pev {e : Expr} {a : E} (hv : valB e = true) (h : PE X e (tE C c W a)) : PE X e (tE C c W a) ∧ PT X e (tT C c W a) := ⟨h, st_val (valB_iff hv) h⟩
theorem pw_of {op : BoolOp} {vs : List Expr} {p : Pos} {t : TT} (h : PT X (.BoolOp op vs p) t) : PW X (.BoolOp op vs p) t := ⟨fun wh pins s σ H Q I q => h.run pins s σ H Q I q⟩
theorem pe_b1 {op : BoolOp} {e : Expr} {p : Pos} {t : TE} (h : PE X e t) : PE X (.BoolOp op [e] p) t := ⟨fun pins s σ H Q I q => h.run pins s σ H Q I q⟩
theorem nmIs_iff {x y : Str} (hs : X.env.scope = sc) (h : nmIs bn sc x y = true) : x = y ∧ y ∈ bn.l ∧ Gl X y := by
  unfold nmIs at h
  rw [Bool.and_eq_true, Bool.and_eq_true] at h
  have e := sq_iff h.1.1
  subst e
  exact ⟨rfl, mem_iff h.1.2, glB_iff (hs ▸ h.2)⟩
theorem fnIs_iff (hP : ∀ f, C.P f = tab[f]?) (hs : X.env.scope = sc) {f n : Nat} {x : Str} (h : fnIs tab sc f x n = true) : ∃ fd, C.P f = some fd ∧ tab[f]? = some fd ∧ x = fd.name ∧ Gl X x ∧ (x == ("__debug__" : Str)) = false ∧ fd.ps.length = n := by
  unfold fnIs at h
  split at h
  · rename_i fd ef
    simp only [Bool.and_eq_true] at h
    obtain ⟨⟨⟨h1, h2⟩, h3⟩, h4⟩ := h
    exact ⟨fd, by rw [hP, ef], ef, sq_iff h1, glB_iff (hs ▸ h2), (okNm_iff h3).1, Nat.eq_of_beq_eq_true h4⟩
  · cases h
theorem ownL_snd {vs : List Nat} : (ownL N vs).map (·.2) = vs := by
  unfold ownL
  rw [List.map_map]
  exact List.map_id' vs
theorem ckL_len : ∀ {as : List E} {es : List Expr}, ckL tab bn N sc as es = true → as.length = es.length ∧ ∀ e, e ∈ es → ∀ x p, e ≠ .Starred x p
  | [], [], _ => ⟨rfl, fun e m => by cases m⟩
  | [], _ :: _, h => by simp [ckL] at h
  | _ :: _, [], h => by simp [ckL] at h
  | a :: as, e :: es, h => by
    rw [ckL, Bool.and_eq_true, Bool.and_eq_true] at h
    obtain ⟨h1, h2⟩ := ckL_len h.2
    refine ⟨congrArg Nat.succ h1, fun e' m => ?_⟩
    rcases List.mem_cons.mp m with m | m
    · subst m
      exact noStarB_iff h.1.1
    · exact h2 e' m
theorem CX1.bk {s : Shared} {H : Hp} {Ca : Addr} {cl : List (Str × Addr)} {fp : List Addr} {scope : Scope} (h : CX1 C c k bn N W sc X) (hz : bn.er = none) : CX1 C c k bn N W0 (relS scope sc) (Cx.bk X scope s H Ca cl fp) :=
  ⟨h.cx.blk hz s H Ca cl fp, by show relS scope X.env.scope = _; rw [h.sc], h.N⟩
theorem bk_loc {s : Shared} {H : Hp} {Ca : Addr} {cl : List (Str × Addr)} {fp : List Addr} {scope : Scope} : ∀ x, locB scope x = true → Loc (Cx.bk X scope s H Ca cl fp).env.scope x ∧ ((Cx.bk X scope s H Ca cl fp).fn x = true ∨ (Cx.bk X scope s H Ca cl fp).env.scope.names.lookup x = some .local) := fun x h => by
  have h1 := locB_iff h
  rcases h1 with h1 | h1
  · have h2 : (relS scope X.env.scope).names.lookup x = some .local := lookup_relS_keep (by decide) h1
    exact ⟨.inl h2, .inr h2⟩
  · have h2 : (relS scope X.env.scope).names.lookup x = some .cell := lookup_relS_keep (by decide) h1
    refine ⟨.inr h2, .inl ?_⟩
    show (scope.names.lookup x == some .cell) = true
    rw [h1]
    rfl
end
end Ev
namespace Ev
open PySem PySem.Spec PyProof.Rows L2
section
variable {C : Cfg} {c : Call} {tab : List Fd} {bn : Bn} {N : List Str} {k : Nat}
/-- what is proved of an expression -/
structure EOk (C : Cfg) (c : Call) (k : Nat) (tab : List Fd) (bn : Bn) (N : List Str) (a : E) : Prop where
  ev : ∀ {W : WX} {sc : Scope} {X : Cx} {e : Expr}, CX1 C c k bn N W sc X → ckE tab bn N sc a e = true → PE X e (tE C c W a) ∧ PT X e (tT C c W a)
  it : ∀ {W : WX} {sc : Scope} {X : Cx} {t e : Expr}, CX1 C c k bn N W sc X → ckI tab bn N sc a t e = true → notSet e = true → PI X t e (tI C c W a)
structure LOk (C : Cfg) (c : Call) (k : Nat) (tab : List Fd) (bn : Bn) (N : List Str) (as : List E) : Prop where
  args : ∀ {W : WX} {sc : Scope} {X : Cx} {es : List Expr}, CX1 C c k bn N W sc X → ckL tab bn N sc as es = true → PA X es (tA C c W as)
  kws : ∀ {W : WX} {sc : Scope} {X : Cx} {es : List Expr} {ks : List Keyword}, CX1 C c k bn N W sc X → ckL tab bn N sc as (es ++ ks.map (·.value)) = true → ∃ a1 a2, as = a1 ++ a2 ∧ a1.length = es.length ∧ a2.length = ks.length ∧ PA X es (tA C c W a1) ∧ PK X ks (tA C c W a2) ∧ ∀ e, e ∈ es → ∀ x p, e ≠ .Starred x p
theorem cst_ok {X : Cx} {W : WX} {d : D} {e : Expr} {co : Const} {j : Nat} {p : Pos} (h : cstB d co = true) (he : e = .Constant co j p) : PE X e (tE C c W (.cst d)) := by
  subst he
  unfold cstB at h
  split at h
  · exact se_cst pe_non fun _ _ => .non
  · rename_i b c'
    have := of_decide_eq_true (by simpa using h : decide (b = c') = true)
    subst this
    exact se_cst pe_bl fun _ _ => .bl _
  · have := of_decide_eq_true h
    subst this
    exact se_cst pe_int fun _ _ => .int _
  · have := sq_iff h
    subst this
    exact se_cst pe_str fun _ _ => .str _
  · cases h
theorem tyNm_iff {t : Ty} {u : Str} (h : tyNm t u = true) : bootBuiltins u = some (.type t.nm) ∧ u ≠ "__name__" ∧ (u == ("__debug__" : Str)) = false := by
  unfold tyNm at h
  cases t <;> (have e := sq_iff h; subst e; exact ⟨by decide +kernel, by decide, by decide⟩)
mutual
theorem eOk (hP : ∀ f, C.P f = tab[f]?) : ∀ a : E, EOk C c k tab bn N a
  | .var i => ⟨fun {W sc X e} h q => by
      rw [ckE] at q
      split at q
      · rename_i x ex
        obtain ⟨p, rfl⟩ := xName_iff ex
        rw [Bool.and_eq_true, Bool.and_eq_true] at q
        obtain ⟨h1, h2, _⟩ := okNm_iff q.2
        exact pev rfl (se_var (h.N ▸ at_iff q.1.1) (h.sc ▸ visB_iff q.1.2) h1 h2)
      · (cases q), fun h q => by simp [ckI] at q⟩
  | .cst d => ⟨fun {W sc X e} h q => by
      rw [ckE] at q
      split at q
      · rename_i co ex
        obtain ⟨j, p, rfl⟩ := xCst_iff ex
        exact pev rfl (cst_ok q rfl)
      · (cases q), fun h q => by simp [ckI] at q⟩
  | .gint _ _ => ⟨fun h q => by simp [ckE] at q, fun h q => by simp [ckI] at q⟩
  | .gfn f => ⟨fun {W sc X e} h q => by
      rw [ckE] at q
      split at q
      · rename_i x ex
        obtain ⟨p, rfl⟩ := xName_iff ex
        split at q
        · rename_i fd ef
          simp only [Bool.and_eq_true] at q
          have e1 := sq_iff q.1.1.2
          subst e1
          exact pev rfl (se_gfn (Nat.le_of_ble_eq_true q.1.1.1) (pe_glob (glB_iff (h.sc ▸ q.1.2)) (h.cx.fns f fd (by rw [hP, ef])).at_ rfl (okNm_iff q.2).1))
        · cases q
      · (cases q), fun h q => by simp [ckI] at q⟩
  | .tup es => ⟨fun {W sc X e} h q => by
      rw [ckE] at q
      split at q
      · rename_i xs ex
        obtain ⟨j, p, rfl⟩ := xTup_iff ex
        rw [Bool.and_eq_true] at q
        exact pev rfl (se_tup (of_decide_eq_true q.1) ((lOk hP es).args h q.2))
      · (cases q), fun h q => by simp [ckI] at q⟩
  | .lst es => ⟨fun {W sc X e} h q => by
      rw [ckE] at q
      split at q
      · rename_i xs ex
        obtain ⟨p, rfl⟩ := xLst_iff ex
        rw [Bool.and_eq_true] at q
        exact pev rfl (se_lst (of_decide_eq_true q.1) ((lOk hP es).args h q.2))
      · (cases q), fun h q => by simp [ckI] at q⟩
  | .bin op a b => ⟨fun {W sc X e} h q => by
      rw [ckE] at q
      split at q
      · rename_i x o y ex
        obtain ⟨p, rfl⟩ := xBin_iff ex
        simp only [Bool.and_eq_true] at q
        have e1 : op = o := of_decide_eq_true q.1.1
        subst e1
        exact pev rfl (se_bin h.cx.hK ((eOk hP a).ev h q.1.2).1 ((eOk hP b).ev h q.2).1)
      · (cases q), fun h q => by simp [ckI] at q⟩
  | .neg a => ⟨fun {W sc X e} h q => by
      rw [ckE] at q
      split at q
      · rename_i x ex
        obtain ⟨p, rfl⟩ := xUn_iff ex
        exact pev rfl (se_neg ((eOk hP a).ev h q).1)
      · (cases q), fun h q => by simp [ckI] at q⟩
  | .cmp op a b => ⟨fun {W sc X e} h q => by
      rw [ckE] at q
      split at q
      · rename_i x o y ex
        obtain ⟨p, rfl⟩ := xCmp1_iff ex
        simp only [Bool.and_eq_true] at q
        have e1 : op = o := of_decide_eq_true q.1.1.1
        subst e1
        have hm := noMarks q.1.1.2 op
        exact ⟨se_cmp h.cx.hK h.cx.hu hm ((eOk hP a).ev h q.1.2).1 ((eOk hP b).ev h q.2).1, st_cmp h.cx.hK h.cx.hu hm ((eOk hP a).ev h q.1.2).1 ((eOk hP b).ev h q.2).1⟩
      · (cases q), fun h q => by simp [ckI] at q⟩
  | .chain op op2 a b d => ⟨fun {W sc X e} h q => by
      rw [ckE] at q
      split at q
      · rename_i x o y o2 z ex
        obtain ⟨p, rfl⟩ := xCmp2_iff ex
        simp only [Bool.and_eq_true, Bool.not_eq_true'] at q
        obtain ⟨⟨⟨⟨⟨q1, q2⟩, q3⟩, q4⟩, q5⟩, q6⟩ := q
        have e1 : op = o := of_decide_eq_true q1
        have e2 : op2 = o2 := of_decide_eq_true q2
        subst e1 e2
        exact ⟨se_chain h.cx.hK h.cx.hu q3 ((eOk hP a).ev h q4).1 ((eOk hP b).ev h q5).1 ((eOk hP d).ev h q6).1, st_chain h.cx.hK h.cx.hu q3 ((eOk hP a).ev h q4).1 ((eOk hP b).ev h q5).1 ((eOk hP d).ev h q6).1⟩
      · (cases q), fun h q => by simp [ckI] at q⟩
  | .and a b => ⟨fun {W sc X e} h q => by
      rw [ckE] at q
      split at q
      · rename_i x y p ex
        have e1 := xBool_iff ex
        subst e1
        rw [Bool.and_eq_true] at q
        have ha := (eOk hP a).ev h q.1
        have hb := (eOk hP b).ev h q.2
        exact ⟨se_and ha.1 (pe_b1 hb.1), (st_and ha.2 (pw_and1 hb.2)).pt⟩
      · rename_i x y r p hne ex
        have e1 := xBool_iff ex
        subst e1
        rw [Bool.and_eq_true] at q
        have ha := (eOk hP a).ev h q.1
        have hb := (eOk hP b).ev h q.2
        exact ⟨se_and ha.1 hb.1, (st_and ha.2 (pw_of hb.2)).pt⟩
      · (cases q), fun h q => by simp [ckI] at q⟩
  | .or a b => ⟨fun {W sc X e} h q => by
      rw [ckE] at q
      split at q
      · rename_i x y p ex
        have e1 := xBool_iff ex
        subst e1
        rw [Bool.and_eq_true] at q
        have ha := (eOk hP a).ev h q.1
        have hb := (eOk hP b).ev h q.2
        exact ⟨se_or ha.1 (pe_b1 hb.1), (st_or ha.2 (pw_or1 hb.2)).pt⟩
      · rename_i x y r p hne ex
        have e1 := xBool_iff ex
        subst e1
        rw [Bool.and_eq_true] at q
        have ha := (eOk hP a).ev h q.1
        have hb := (eOk hP b).ev h q.2
        exact ⟨se_or ha.1 hb.1, (st_or ha.2 (pw_of hb.2)).pt⟩
      · (cases q), fun h q => by simp [ckI] at q⟩
  | .not a => ⟨fun {W sc X e} h q => by
      rw [ckE] at q
      split at q
      · rename_i x ex
        obtain ⟨p, rfl⟩ := xUn_iff ex
        have ha := (eOk hP a).ev h q
        exact ⟨se_not ha.1, st_not ha.2⟩
      · (cases q), fun h q => by simp [ckI] at q⟩
  | .ife t a b => ⟨fun {W sc X e} h q => by
      rw [ckE] at q
      split at q
      · rename_i x y z ex
        obtain ⟨p, rfl⟩ := xIf_iff ex
        simp only [Bool.and_eq_true] at q
        have ht := (eOk hP t).ev h q.1.1
        have ha := (eOk hP a).ev h q.1.2
        have hb := (eOk hP b).ev h q.2
        exact ⟨se_ife ht.2 ha.1 hb.1, st_ife ht.2 ha.2 hb.2⟩
      · (cases q), fun h q => by simp [ckI] at q⟩
  | .ix a i => ⟨fun {W sc X e} h q => by
      rw [ckE] at q
      split at q
      · rename_i x y ex
        obtain ⟨p, rfl⟩ := xSub_iff ex
        simp only [Bool.and_eq_true] at q
        exact pev rfl (se_ix h.cx.hK (notSlice_iff q.1.1).2 ((eOk hP a).ev h q.1.2).1 ((eOk hP i).ev h q.2).1)
      · (cases q), fun h q => by simp [ckI] at q⟩
  | .sl a lo hi => ⟨fun {W sc X e} h q => by
      rw [ckE] at q
      split at q
      · rename_i x l u ex
        obtain ⟨p, p2, rfl⟩ := xSl_iff ex
        simp only [Bool.and_eq_true] at q
        exact pev rfl (se_sl h.cx.hK ((eOk hP a).ev h q.1.1).1 (oOk hP lo h q.1.2) (oOk hP hi h q.2))
      · (cases q), fun h q => by simp [ckI] at q⟩
  | .call f es => ⟨fun {W sc X e} h q => by
      rw [ckE] at q
      split at q
      · rename_i x xs ex
        obtain ⟨p, p2, rfl⟩ := xCall_iff ex
        rw [Bool.and_eq_true, Bool.and_eq_true] at q
        have hz := cold_iff q.1
        replace q := q.2
        obtain ⟨fd, h1, _, rfl, h3, h4, h5⟩ := fnIs_iff hP h.sc q.1
        obtain ⟨l1, l2⟩ := ckL_len q.2
        exact pev rfl (se_call h.cx hz h1 h3 h4 l2 (l1.symm.trans h5.symm) l1 ((lOk hP es).args h q.2))
      · (cases q), fun h q => by simp [ckI] at q⟩
  | .callK f np perm es => ⟨fun {W sc X e} h q => by
      rw [ckE] at q
      split at q
      · rename_i x xs kws ex
        obtain ⟨p, p2, rfl⟩ := xCall_iff ex
        simp only [Bool.and_eq_true, List.all_eq_true] at q
        obtain ⟨⟨⟨⟨⟨q0, q1⟩, q2⟩, q3⟩, q4⟩, q5⟩ := q
        obtain ⟨fd, h1, ef, rfl, h3, h4, h5⟩ := fnIs_iff hP h.sc q1
        obtain ⟨a1, a2, e1, l1, l2, hA, hK, hst⟩ := (lOk hP es).kws h q5
        unfold kwIs at q3
        rw [ef] at q3
        subst e1
        exact pev rfl (se_callK h.cx (cold_iff q0) h1 h3 h4 hst q3 q4 (Nat.eq_of_beq_eq_true q2) l1 l2 hA hK)
      · (cases q), fun h q => by simp [ckI] at q⟩
  | .b1 b a => ⟨fun {W sc X e} h q => by
      rw [ckE] at q
      split at q
      · rename_i x y ex
        obtain ⟨p, p2, rfl⟩ := xCall_iff ex
        rw [Bool.and_eq_true, Bool.or_eq_true] at q
        have hz := cold_iff q.1
        replace q := q.2
        rcases q with q | q
        · simp only [Bool.and_eq_true] at q
          obtain ⟨⟨⟨⟨q1, q2⟩, q3⟩, q4⟩, q5⟩ := q
          unfold b1Nm at q1
          split at q1
          · rename_i z v en
            have e1 := sq_iff q1
            subst e1
            exact pev rfl (se_b1 h.cx hz en (mem_iff q2) (glB_iff (h.sc ▸ q3)) (noStarB_iff q4) ((eOk hP a).ev h q5).1)
          · cases q1
        · rw [Bool.and_eq_true, Bool.and_eq_true] at q
          obtain ⟨⟨q1, q2⟩, q3⟩ := q
          obtain ⟨rfl, h1, h2⟩ := nmIs_iff h.sc q2
          split at q3
          · rename_i x2 z ex2
            obtain ⟨p3, p4, rfl⟩ := xCall_iff ex2
            simp only [Bool.and_eq_true] at q3
            obtain ⟨rfl, h3, h4⟩ := nmIs_iff h.sc q3.1.1
            cases b with
            | rev => exact pev rfl (se_rev h.cx hz h1 h2 h3 h4 (noStarB_iff q3.1.2) ((eOk hP a).ev h q3.2).1)
            | _ => cases q1
          · cases q3
      · (cases q), fun h q => by simp [ckI] at q⟩
  | .b2 b a1 a2 => ⟨fun {W sc X e} h q => by
      rw [ckE] at q
      split at q
      · rename_i x y z ex
        obtain ⟨p, p2, rfl⟩ := xCall_iff ex
        simp only [Bool.and_eq_true] at q
        obtain ⟨⟨⟨⟨⟨q0, q1⟩, q2⟩, q3⟩, q4⟩, q5⟩ := q
        obtain ⟨rfl, h1, h2⟩ := nmIs_iff h.sc q1
        exact pev rfl (se_b2 h.cx (cold_iff q0) h1 h2 (noStarB_iff q2) (noStarB_iff q3) ((eOk hP a1).ev h q4).1 ((eOk hP a2).ev h q5).1)
      · (cases q), fun h q => by simp [ckI] at q⟩
  | .isi a t => ⟨fun {W sc X e} h q => by
      rw [ckE] at q
      split at q
      · rename_i x y z ex
        obtain ⟨p, p2, rfl⟩ := xCall_iff ex
        simp only [Bool.and_eq_true] at q
        obtain ⟨⟨⟨q1, q2⟩, q3⟩, q4⟩ := q
        obtain ⟨rfl, h1, h2⟩ := nmIs_iff h.sc q1
        split at q4
        · rename_i u eu
          obtain ⟨p3, rfl⟩ := xName_iff eu
          simp only [Bool.and_eq_true] at q4
          obtain ⟨t1, t2, t3⟩ := tyNm_iff q4.1.1
          exact pev rfl (se_isi (.inr t1) h.cx h1 h2 (mem_iff q4.1.2) (glB_iff (h.sc ▸ q4.2)) t2 t3 t1 (noStarB_iff q2) ((eOk hP a).ev h q3).1)
        · cases q4
      · (cases q), fun h q => by simp [ckI] at q⟩
  | .bitlen a => ⟨fun {W sc X e} h q => by
      rw [ckE] at q
      split at q
      · rename_i o nm ex
        obtain ⟨ap, p, rfl, hl⟩ := xMeth_iff ex
        simp only [Bool.and_eq_true] at q
        have e1 := sq_iff q.1.1
        subst e1
        exact pev rfl (se_bits (base_of q.1.2) hl ((eOk hP a).ev h q.2).1)
      · (cases q), fun h q => by simp [ckI] at q⟩
  | .lc elt tg it cn vs => ⟨fun {W sc X e} h q => by
      rw [ckE] at q
      split at q
      · rename_i x t i ifs scope p ex
        have e1 := xLc_iff ex
        subst e1
        simp only [Bool.and_eq_true] at q
        obtain ⟨⟨⟨⟨⟨⟨⟨q0, q1⟩, q2⟩, q3⟩, q4⟩, q5⟩, q6⟩, q7⟩ := q
        have hz := cold_iff q0
        have e2 : (ownL N vs).map (·.2) = vs := ownL_snd
        have r := se_lc (pos := p) (scope := scope) (tg := tg) (ifs := ifs) (cn := cn) (elt := elt) (own := ownL N vs) h.cx hz (notSet_iff q1) (by rw [h.N, h.sc]; exact q2) (by rw [e2]; exact q3) ((eOk hP it).it h q5 q1)
          (fun s H Ca cl fp => ckG_ok (X := Cx.bk X scope s H Ca cl fp) (h.cx.calm hz) h.cx.hK h.cx.nd h.N bk_loc q4)
          (fun s H Ca cl fp => cOk hP cn (h.bk hz) q7)
          (fun s H Ca cl fp => ((eOk hP elt).ev (h.bk hz) q6).1)
        rw [e2] at r
        exact pev rfl r
      · (cases q), fun h q => by simp [ckI] at q⟩
  | .pop o => ⟨fun {W sc X e} h q => by
      rw [ckE] at q
      split at q
      · rename_i x nm ex
        obtain ⟨ap, p, rfl, hl⟩ := xMeth_iff ex
        simp only [Bool.and_eq_true] at q
        have e1 := sq_iff q.1.1
        subst e1
        exact pev rfl (se_pop (base_of q.1.2) hl ((eOk hP o).ev h q.2).1)
      · (cases q), fun h q => by simp [ckI] at q⟩
  | .share a => ⟨fun {W sc X e} h q => by
      rw [ckE, Bool.and_eq_true] at q
      exact pev q.1 (se_share ((eOk hP a).ev h q.2).1), fun h q => by simp [ckI] at q⟩
  | .isE i cs q one => ⟨fun {W sc X e} h z => by
      rw [ckE] at z
      unfold isEB at z
      split at z
      · rename_i q0
        rw [Bool.and_eq_true] at z
        have eo := z.1
        subst eo
        replace z := z.2
        split at z
        · rename_i x y w ex
          obtain ⟨p, p2, rfl⟩ := xCall_iff ex
          simp only [Bool.and_eq_true] at z
          obtain ⟨rfl, h1, h2⟩ := nmIs_iff h.sc z.1.1
          have z2 := z.1.2
          have z3 := z.2
          unfold erB at z2
          unfold clsB at z3
          split at z2
          · rename_i nm u en eu
            obtain ⟨p3, rfl⟩ := xName_iff eu
            simp only [Bool.and_eq_true] at z2
            have e1 := sq_iff z2.1.1.1
            subst e1
            split at z3
            · rename_i cd u2 ecd eu2
              obtain ⟨p4, rfl⟩ := xName_iff eu2
              simp only [Bool.and_eq_true] at z3
              have e2 := sq_iff z3.1.1
              subst e2
              obtain ⟨n1, n2, _⟩ := okNm_iff z2.2
              exact pev rfl (se_isE h.cx en (h.N ▸ at_iff z2.1.1.2) (h.sc ▸ visB_iff z2.1.2) n1 n2 h1 h2 ecd (glB_iff (h.sc ▸ z3.1.2)) (csB_iff z3.2))
            · cases z3
          · cases z2
        · cases z
      · (cases z), fun h q => by simp [ckI] at q⟩
  | .fldE i f => ⟨fun {W sc X e} h z => by
      rw [ckE] at z
      unfold fldEB at z
      split at z
      · rename_i y f' ex
        obtain ⟨p, rfl⟩ := xAttr_iff ex
        simp only [Bool.and_eq_true] at z
        have e0 := sq_iff z.1.1
        subst e0
        have z2 := z.1.2
        unfold erB at z2
        split at z2
        · rename_i nm u en eu
          obtain ⟨p3, rfl⟩ := xName_iff eu
          simp only [Bool.and_eq_true] at z2
          have e1 := sq_iff z2.1.1.1
          subst e1
          obtain ⟨n1, n2, _⟩ := okNm_iff z2.2
          obtain ⟨ci, hi, hif⟩ := fldB_iff z.2
          exact pev rfl (se_fldE h.cx en (h.N ▸ at_iff z2.1.1.2) (h.sc ▸ visB_iff z2.1.2) n1 n2 hi hif)
        · cases z2
      · (cases z), fun h q => by simp [ckI] at q⟩
  | .rng none hi => ⟨fun h q => by simp [ckE] at q, fun {W sc X t e} h q ns => by
      rw [ckI] at q
      split at q
      · rename_i x y ex
        obtain ⟨p, p2, rfl⟩ := xCall_iff ex
        simp only [Bool.and_eq_true] at q
        obtain ⟨rfl, h1, h2⟩ := nmIs_iff h.sc q.1.1
        exact si_rng1 h.cx h1 h2 (noStarB_iff q.1.2) ((eOk hP hi).ev h q.2).1
      · cases q⟩
  | .rng (some lo) hi => ⟨fun h q => by simp [ckE] at q, fun {W sc X t e} h q ns => by
      rw [ckI] at q
      split at q
      · rename_i x y z ex
        obtain ⟨p, p2, rfl⟩ := xCall_iff ex
        simp only [Bool.and_eq_true] at q
        obtain ⟨⟨⟨⟨q1, q2⟩, q3⟩, q4⟩, q5⟩ := q
        obtain ⟨rfl, h1, h2⟩ := nmIs_iff h.sc q1
        exact si_rng2 h.cx h1 h2 (noStarB_iff q2) (noStarB_iff q3) ((eOk hP lo).ev h q4).1 ((eOk hP hi).ev h q5).1
      · cases q⟩
  | .enum a => ⟨fun h q => by simp [ckE] at q, fun {W sc X t e} h q ns => by
      rw [ckI, Bool.and_eq_true] at q
      obtain ⟨es, kk, tp, rfl⟩ := isTupB_iff q.1
      replace q := q.2
      split at q
      · rename_i x y ex
        obtain ⟨p, p2, rfl⟩ := xCall_iff ex
        simp only [Bool.and_eq_true] at q
        obtain ⟨rfl, h1, h2⟩ := nmIs_iff h.sc q.1.1
        exact si_enum h.cx h1 h2 (noStarB_iff q.1.2) ((eOk hP a).ev h q.2).1
      · cases q⟩
  | .zip [a, b] => ⟨fun h q => by simp [ckE] at q, fun {W sc X t e} h q ns => by
      rw [ckI, Bool.and_eq_true] at q
      obtain ⟨es, kk, tp, rfl⟩ := isTupB_iff q.1
      replace q := q.2
      split at q
      · rename_i x y z ex
        obtain ⟨p, p2, rfl⟩ := xCall_iff ex
        simp only [Bool.and_eq_true] at q
        obtain ⟨⟨⟨⟨q1, q2⟩, q3⟩, q4⟩, q5⟩ := q
        obtain ⟨rfl, h1, h2⟩ := nmIs_iff h.sc q1
        exact si_zip h.cx h1 h2 (noStarB_iff q2) (noStarB_iff q3) ((eOk hP a).ev h q4).1 ((eOk hP b).ev h q5).1
      · cases q⟩
  | .zip [] => ⟨fun h q => by simp [ckE] at q, fun h q => by simp [ckI] at q⟩
  | .zip [_] => ⟨fun h q => by simp [ckE] at q, fun h q => by simp [ckI] at q⟩
  | .zip (_ :: _ :: _ :: _) => ⟨fun h q => by simp [ckE] at q, fun h q => by simp [ckI] at q⟩
  | .rvd a => ⟨fun h q => by simp [ckE] at q, fun {W sc X t e} h q ns => by
      rw [ckI] at q
      split at q
      · rename_i x y ex
        obtain ⟨p, p2, rfl⟩ := xCall_iff ex
        simp only [Bool.and_eq_true] at q
        obtain ⟨rfl, h1, h2⟩ := nmIs_iff h.sc q.1.1
        exact si_rvd h.cx h1 h2 (noStarB_iff q.1.2) ((eOk hP a).ev h q.2).1
      · cases q⟩
  | .sq a => ⟨fun h q => by simp [ckE] at q, fun {W sc X t e} h q ns => by
      rw [ckI] at q
      exact si_sq h.cx.hK ((eOk hP a).ev h q).1⟩
theorem oOk (hP : ∀ f, C.P f = tab[f]?) : ∀ (a : Option E) {W : WX} {sc : Scope} {X : Cx} {e : Option Expr}, CX1 C c k bn N W sc X → ckO tab bn N sc a e = true → PO X e (tOp' C c W a)
  | none, W, sc, X, none, h, q => so_none
  | none, W, sc, X, some _, h, q => by simp [ckO] at q
  | some _, W, sc, X, none, h, q => by simp [ckO] at q
  | some a, W, sc, X, some e, h, q => so_some ((eOk hP a).ev h (by rw [ckO] at q; exact q)).1
theorem cOk (hP : ∀ f, C.P f = tab[f]?) : ∀ (a : Option E) {sc : Scope} {X : Cx} {e : List Expr}, CX1 C c k bn N W0 sc X → ckC tab bn N sc a e = true → PTs X e (tC' C c a)
  | none, sc, X, [], h, q => sc_none
  | none, sc, X, _ :: _, h, q => by simp [ckC] at q
  | some _, sc, X, [], h, q => by simp [ckC] at q
  | some _, sc, X, _ :: _ :: _, h, q => by simp [ckC] at q
  | some a, sc, X, [e], h, q => sc_some ((eOk hP a).ev h (by rw [ckC] at q; exact q)).2
theorem lOk (hP : ∀ f, C.P f = tab[f]?) : ∀ as : List E, LOk C c k tab bn N as
  | [] => ⟨fun {W sc X es} h q => by
      cases es with
      | nil => exact sa_nil
      | cons e es => simp [ckL] at q, fun {W sc X es ks} h q => by
      cases es with
      | nil =>
        cases ks with
        | nil => exact ⟨[], [], rfl, rfl, rfl, sa_nil, sk_nil, fun e m => by cases m⟩
        | cons z ks => simp [ckL] at q
      | cons e es => simp [ckL] at q⟩
  | a :: as => ⟨fun {W sc X es} h q => by
      cases es with
      | nil => simp [ckL] at q
      | cons e es =>
        rw [ckL, Bool.and_eq_true, Bool.and_eq_true] at q
        exact sa_cons (noStarB_iff q.1.1) ((eOk hP a).ev h q.1.2).1 ((lOk hP as).args h q.2), fun {W sc X es ks} h q => by
      cases es with
      | nil =>
        cases ks with
        | nil => simp [ckL] at q
        | cons z ks =>
          rw [List.nil_append, List.map_cons, ckL, Bool.and_eq_true, Bool.and_eq_true] at q
          obtain ⟨nm, v, p⟩ := z
          obtain ⟨a1, a2, e1, l1, l2, hA, hK, hs⟩ := (lOk hP as).kws (es := []) h (by rw [List.nil_append]; exact q.2)
          have e0 : a1 = [] := List.eq_nil_of_length_eq_zero l1
          subst e0
          rw [List.nil_append] at e1
          subst e1
          exact ⟨[], a :: as, rfl, rfl, congrArg Nat.succ l2, sa_nil, sk_cons ((eOk hP a).ev h q.1.2).1 hK, fun e m => by cases m⟩
      | cons e es =>
        rw [List.cons_append, ckL, Bool.and_eq_true, Bool.and_eq_true] at q
        obtain ⟨a1, a2, e1, l1, l2, hA, hK, hs⟩ := (lOk hP as).kws h q.2
        subst e1
        refine ⟨a :: a1, a2, rfl, congrArg Nat.succ l1, l2, sa_cons (noStarB_iff q.1.1) ((eOk hP a).ev h q.1.2).1 hA, hK, fun e' m => ?_⟩
        rcases List.mem_cons.mp m with m | m
        · subst m
          exact noStarB_iff q.1.1
        · exact hs e' m⟩
end
end
end Ev
namespace Ev
open PySem PySem.Spec PyProof.Rows L2
/-! ### statements -/
def xAsg : Stmt → Option (Expr × Expr)
  | .Assign [t] e _ => some (t, e)
  | _ => none
theorem xAsg_iff {st : Stmt} {t e : Expr} (h : xAsg st = some (t, e)) : ∃ p, st = .Assign [t] e p := by
  unfold xAsg at h
  split at h
  · cases h
    exact ⟨_, rfl⟩
  · cases h
def xExp : Stmt → Option Expr
  | .Expr e _ => some e
  | _ => none
theorem xExp_iff {st : Stmt} {e : Expr} (h : xExp st = some e) : ∃ p, st = .Expr e p := by
  unfold xExp at h
  split at h
  · cases h
    exact ⟨_, rfl⟩
  · cases h
def notComp : Expr → Bool
  | .ListComp _ _ _ _ => false
  | .SetComp _ _ _ _ => false
  | .DictComp _ _ _ _ _ => false
  | _ => true
theorem notComp_iff {e : Expr} (h : notComp e = true) {t : Option Expr} {l : Nat} {env : Env} : swapsWith e t l env = pure false := by
  cases e <;> first | rfl | cases h
def hides (s : Scope) (x : Str) : Bool := s.names.any fun (n, k) => n == x && (k == .local || k == .cell)
def swF (sc : Scope) (t e : Expr) : Bool := notComp e || match e, t with
  | .ListComp _ _ s _, .Name x _ => !(lclB sc x) || hides s x
  | .ListComp _ _ _ _, _ => true
  | _, _ => false
theorem lclB_eq {sc : Scope} {x : Str} : lclB sc x = (sc.names.lookup x == some .local) := by
  unfold lclB
  rw [lk_eq]
  cases sc.names.lookup x with
  | none => rfl
  | some k => cases k <;> rfl
theorem swF_iff {env : Env} {t e : Expr} {l : Nat} (h : swF env.scope t e = true) : swapsWith e (some t) l env = pure false := by
  unfold swF at h
  rw [Bool.or_eq_true] at h
  rcases h with h | h
  · exact notComp_iff h
  · split at h
    · rename_i a b s p x px
      have e1 : (env.kindOf x == some .local) = lclB env.scope x := lclB_eq.symm
      unfold hides at h
      show (pure (env.blockKind == .function && env.kindOf x == some .local && px.line == p.line && !(s.names.any fun (n, k) => n == x && (k == .local || k == .cell))) : Sem Bool) = pure false
      rw [e1]
      rw [Bool.or_eq_true, Bool.not_eq_true'] at h
      congr 1
      rcases h with h | h
      · rw [h]
        simp
      · rw [h]
        simp
    · rename_i a b s p hne
      cases t <;> first | rfl | exact (hne _ _ rfl).elim | exact (hne _ _ _ rfl).elim
    · cases h
def swB (sc : Scope) (ts vs : List Expr) : Option (Option (List Str)) :=
  if (!(ts.length == 2 || ts.length == 3) || vs.length != ts.length) = true then some none
  else if (vs.any fun | .Starred .. => true | _ => false) = true then some none
  else
    let line := (ts.head?.map (·.pos.line)).getD 0
    let names := ts.filterMap fun
      | .Name id pos => if (lclB sc id && pos.line == line) = true then some id else none
      | _ => none
    if (names.length != ts.length || names.eraseDups.length != names.length) = true then some none
    else if vs.all (foldedForSure 8) = true then some none
    else if vs.all (constantsAlone 8) = true then none
    else some (some names)
theorem swB_iff {env : Env} {ts vs : List Expr} {k k2 : Nat} {p p2 : Pos} {r : Option (List Str)} (hk : env.scope.kind = .function) (h : swB env.scope ts vs = some r) : swappedStores [.Tuple ts k p] (.Tuple vs k2 p2) env = pure r := by
  have hb : (env.blockKind != .function) = false := by
    unfold Env.blockKind
    rw [hk]
    rfl
  unfold swappedStores
  unfold swB at h
  simp only [hb, Bool.or_false]
  have e1 : ∀ id, (env.kindOf id == some .local) = lclB env.scope id := fun id => lclB_eq.symm
  simp only [e1]
  split at h
  · rename_i h1
    refine (if_pos h1).trans ?_
    cases h
    rfl
  · rename_i h1
    refine (if_neg h1).trans ?_
    split at h
    · rename_i h2
      refine (if_pos h2).trans ?_
      cases h
      rfl
    · rename_i h2
      refine (if_neg h2).trans ?_
      simp only at h
      split at h
      · rename_i h3
        refine (if_pos h3).trans ?_
        cases h
        rfl
      · rename_i h3
        refine (if_neg h3).trans ?_
        split at h
        · rename_i h4
          refine (if_pos h4).trans ?_
          cases h
          rfl
        · rename_i h4
          refine (if_neg h4).trans ?_
          split at h
          · cases h
          · rename_i h5
            refine (if_neg h5).trans ?_
            cases h
            rfl
end Ev
namespace Ev
open PySem PySem.Spec PyProof.Rows L2
def isLcB : E → Bool
  | .lc _ _ _ _ _ => true
  | _ => false
def isFrz : S → Bool
  | .frz _ => true
  | _ => false
def uncons (l : List Stmt) : Option (Stmt × List Stmt) := match l with
  | [] => none
  | st :: sts => some (st, sts)
def xRet : Stmt → Option (Option Expr)
  | .Return e _ => some e
  | _ => none
theorem xRet_iff {st : Stmt} {e : Option Expr} (h : xRet st = some e) : ∃ p, st = .Return e p := by
  unfold xRet at h
  split at h
  · cases h
    exact ⟨_, rfl⟩
  · cases h
def xIfS : Stmt → Option (Expr × List Stmt × List Stmt)
  | .If e a b _ => some (e, a, b)
  | _ => none
theorem xIfS_iff {st : Stmt} {e : Expr} {a b : List Stmt} (h : xIfS st = some (e, a, b)) : ∃ p, st = .If e a b p := by
  unfold xIfS at h
  split at h
  · cases h
    exact ⟨_, rfl⟩
  · cases h
def xForS : Stmt → Option (Expr × Expr × List Stmt)
  | .For t e a [] _ => some (t, e, a)
  | _ => none
theorem xForS_iff {st : Stmt} {t e : Expr} {a : List Stmt} (h : xForS st = some (t, e, a)) : ∃ p, st = .For t e a [] p := by
  unfold xForS at h
  split at h
  · cases h
    exact ⟨_, rfl⟩
  · cases h
def xWhlS : Stmt → Option (Expr × List Stmt)
  | .While e a [] _ => some (e, a)
  | _ => none
theorem xWhlS_iff {st : Stmt} {e : Expr} {a : List Stmt} (h : xWhlS st = some (e, a)) : ∃ p, st = .While e a [] p := by
  unfold xWhlS at h
  split at h
  · cases h
    exact ⟨_, rfl⟩
  · cases h
def isBrk : Stmt → Bool
  | .Break _ => true
  | _ => false
theorem isBrk_iff {st : Stmt} (h : isBrk st = true) : ∃ p, st = .Break p := by
  unfold isBrk at h
  split at h
  · exact ⟨_, rfl⟩
  · cases h
def isCnt : Stmt → Bool
  | .Continue _ => true
  | _ => false
theorem isCnt_iff {st : Stmt} (h : isCnt st = true) : ∃ p, st = .Continue p := by
  unfold isCnt at h
  split at h
  · exact ⟨_, rfl⟩
  · cases h
def isPass : Stmt → Bool
  | .Pass _ => true
  | _ => false
theorem isPass_iff {st : Stmt} (h : isPass st = true) : ∃ p, st = .Pass p := by
  unfold isPass at h
  split at h
  · exact ⟨_, rfl⟩
  · cases h
section
variable (tab : List Fd) (bn : Bn) (N : List Str)
def ckPar (sc : Scope) (t : Tg) (a : E) (ts vs : List Expr) (names : List Str) : Bool := match t, a, ts, vs, names with
  | .tup [.var i, .var j], .tup [a, b], [.Name x' _, .Name y' _], [e1, e2], [x, y] =>
    sq x' x && sq y' y && at? N i x && at? N j y && !(Nat.beq i j) && lclB sc x && lclB sc y && ckL tab bn N sc [a, b] [e1, e2]
  | .tup [.var i, .var j, .var l], .tup [a, b, d], [.Name x' _, .Name y' _, .Name z' _], [e1, e2, e3], [x, y, z] =>
    sq x' x && sq y' y && sq z' z && at? N i x && at? N j y && at? N l z && !(Nat.beq i j) && !(Nat.beq i l) && !(Nat.beq j l) && lclB sc x && lclB sc y && lclB sc z && ckL tab bn N sc [a, b, d] [e1, e2, e3]
  | _, _, _, _, _ => false
def ckPar2 (sc : Scope) (i : Nat) (a : E) (j : Nat) (b : E) (ts vs : List Expr) (names : List Str) : Bool := match ts, vs, names with
  | [.Name x' _, .Name y' _], [e1, e2], [x, y] =>
    sq x' x && sq y' y && at? N i x && at? N j y && !(Nat.beq i j) && lclB sc x && lclB sc y && (noStarB e1 && ckE tab bn N sc a e1) && (noStarB e2 && ckE tab bn N sc b e2)
  | _, _, _ => false
def ckPar3 (sc : Scope) (i : Nat) (a : E) (j : Nat) (b : E) (l : Nat) (d : E) (ts vs : List Expr) (names : List Str) : Bool := match ts, vs, names with
  | [.Name x' _, .Name y' _, .Name z' _], [e1, e2, e3], [x, y, z] =>
    sq x' x && sq y' y && sq z' z && at? N i x && at? N j y && at? N l z && !(Nat.beq i j) && !(Nat.beq i l) && !(Nat.beq j l) && lclB sc x && lclB sc y && lclB sc z && (noStarB e1 && ckE tab bn N sc a e1) && (noStarB e2 && ckE tab bn N sc b e2) && (noStarB e3 && ckE tab bn N sc d e3)
  | _, _, _ => false
def isNameB : Expr → Bool
  | .Name _ _ => true
  | _ => false
/-- name = [..] stored inside -/
def ckOwn (sc : Scope) (i : Nat) (a : E) (tg e : Expr) : Bool := match tg, xLc e with
  | .Name x py, some (_, _, _, _, s, p) => isLcB a && at? N i x && lclB sc x && (py.line == p.line) && !(hides s x) && ckE tab bn N sc a e
  | _, _ => false
end
def isVarT : Tg → Bool
  | .var _ => true
  | _ => false
def xRaise : Stmt → Option (Str × List Expr)
  | .Raise (some (.Call (.Name u _) es [] _)) none _ => some (u, es)
  | _ => none
theorem xRaise_iff {st : Stmt} {u : Str} {es : List Expr} (h : xRaise st = some (u, es)) : ∃ p p2 p3, st = .Raise (some (.Call (.Name u p) es [] p2)) none p3 := by
  unfold xRaise at h
  split at h
  · cases h
    exact ⟨_, _, _, rfl⟩
  · cases h
def xTry : Stmt → Option (List Stmt × Expr × Str × List Stmt)
  | .Try body [.ExceptHandler (some te) (some n) su _] [] [] _ => some (body, te, n, su)
  | _ => none
theorem xTry_iff {st : Stmt} {body : List Stmt} {te : Expr} {n : Str} {su : List Stmt} (h : xTry st = some (body, te, n, su)) : ∃ p p2, st = .Try body [.ExceptHandler (some te) (some n) su p] [] [] p2 := by
  unfold xTry at h
  split at h
  · cases h
    exact ⟨_, _, rfl⟩
  · cases h
def isOwn (cd : Cl) : Bool := match cd.bt with
  | none => true
  | some _ => false
theorem isOwn_iff {cd : Cl} (h : isOwn cd = true) : cd.bt = none := by
  unfold isOwn at h
  split at h
  · assumption
  · cases h
def raiseB (tab : List Fd) (bn : Bn) (N : List Str) (sc : Scope) (j : Nat) (f : Option Str) (as : List E) (st : Stmt) : Bool := match xRaise st, bn.cl[j]? with
  | some (u, es), some cd => cold bn && isOwn cd && cd.ini && sq u cd.name && glB sc u && (match f, cd.fld, as, es with
    | none, none, [], [] => true
    | some f, some g, [a], [e] => sq f g && noStarB e && ckE tab bn N sc a e
    | _, _, _, _ => false)
  | _, _ => false
mutual
def ckS (tab : List Fd) (bn : Bn) (N : List Str) (sc : Scope) : S → Stmt → Bool
  | .asg t a, st => match xAsg st with
    | some (tg, e) => (match xTup tg, xTup e with
      | some ts, some vs => cold bn && (match swB sc ts vs with
        | some none => ckG N sc t tg && ckE tab bn N sc a e
        | some (some names) => ckPar tab bn N sc t a ts vs names
        | none => false)
      | _, _ => (cold bn || isVarT t) && swF sc tg e && ckG N sc t tg && ckE tab bn N sc a e)
    | none => false
  | .par2 i _ a j _ b, st => match xAsg st with
    | some (tg, e) => (match xTup tg, xTup e with
      | some ts, some vs => cold bn && (match swB sc ts vs with
        | some (some names) => ckPar2 tab bn N sc i a j b ts vs names
        | _ => false)
      | _, _ => false)
    | none => false
  | .par3 i _ a j _ b l _ d, st => match xAsg st with
    | some (tg, e) => (match xTup tg, xTup e with
      | some ts, some vs => cold bn && (match swB sc ts vs with
        | some (some names) => ckPar3 tab bn N sc i a j b l d ts vs names
        | _ => false)
      | _, _ => false)
    | none => false
  | .own i a, st => match xAsg st with
    | some (tg, e) => (swF sc tg e && (match xName tg with
      | some x => at? N i x && locB sc x && ckE tab bn N sc a e
      | none => false)) || ckOwn tab bn N sc i a tg e
    | none => false
  | .ret a, st => match xRet st with
    | some (some e) => ckE tab bn N sc a e
    | _ => false
  | .retN, st => match xRet st with
    | some none => true
    | _ => false
  | .ife t a b, st => match xIfS st with
    | some (e, as, bs) => ckE tab bn N sc t e && ckB tab bn N sc a as && ckB tab bn N sc b bs
    | none => false
  | .for tg it b, st => match xForS st with
    | some (t, e, bs) => cold bn && notSet e && ckG N sc tg t && ckI tab bn N sc it t e && ckB tab bn N sc b bs
    | none => false
  | .whl t b, st => match xWhlS st with
    | some (e, bs) => cold bn && ckE tab bn N sc t e && ckB tab bn N sc b bs
    | none => false
  | .brk, st => isBrk st
  | .cnt, st => isCnt st
  | .pass, st => isPass st
  | .exp a, st => match xExp st with
    | some e => notComp e && ckE tab bn N sc a e
    | none => false
  | .app i a, st => match xExp st with
    | some e => (match xMeth e with
      | some (.Name x _, nm, [e1], true) => sq nm "append" && at? N i x && visB sc x && okNm x && noStarB e1 && ckE tab bn N sc a e1
      | _ => false)
    | none => false
  | .ext i a, st => match xExp st with
    | some e => (match xMeth e with
      | some (.Name x _, nm, [e1], true) => sq nm "extend" && at? N i x && visB sc x && okNm x && noStarB e1 && ckE tab bn N sc a e1
      | _ => false)
    | none => false
  | .popO i, st => match xExp st with
    | some e => (match xMeth e with
      | some (.Name x _, nm, [], true) => sq nm "pop" && at? N i x && visB sc x && okNm x
      | _ => false)
    | none => false
  | .setO i b a, st => match xAsg st with
    | some (.Subscript (.Name x _) e2 _, e1) => at? N i x && visB sc x && okNm x && notSlice e2 && ckE tab bn N sc a e1 && ckE tab bn N sc b e2
    | _ => false
  | .setL d b a, st => match xAsg st with
    | some (.Subscript e3 e2 _, e1) => notSlice e2 && ckE tab bn N sc a e1 && ckE tab bn N sc d e3 && ckE tab bn N sc b e2
    | _ => false
  | .raise j f as, st => raiseB tab bn N sc j f as st
  | .try b x cs i s, st => match xTry st with
    | some (body, te, n, su) => cold bn && clsB bn sc x cs te && at? N i n && lclB sc n && !su.isEmpty && ckB tab bn N sc b body && ckB [] { bn with er := some n } N sc s su
    | none => false
  | .frz _, _ => false
def ckB (tab : List Fd) (bn : Bn) (N : List Str) (sc : Scope) : List S → List Stmt → Bool
  | [], sts => sts.isEmpty
  | s :: ss, sts => if isFrz s = true then ckB tab bn N sc ss sts else match uncons sts with
    | some (st, sts) => ckS tab bn N sc s st && ckB tab bn N sc ss sts
    | none => false
end
section
variable {C : Cfg} {c : Call} {tab : List Fd} {bn : Bn} {N : List Str} {k : Nat}
/-- a def's context -/
structure CXS (C : Cfg) (c : Call) (k : Nat) (bn : Bn) (N : List Str) (W : WX) (sc : Scope) (X : Cx) : Prop where
  cx1 : CX1 C c k bn N W sc X
  kd : sc.kind = .function
  po : bn.er = none → PassesOwn (model X.prog X.w) X.A X.env X.xe
  stk : X.stack = X.env :: X.outer
  frm : X.env.frame = some X.env.locals
  loc : ∀ x, locB sc x = true → Loc X.env.scope x ∧ (X.fn x = true ∨ X.env.scope.names.lookup x = some .local)
theorem sw_none {tg e : Expr} {env : Env} (h : xTup tg = none ∨ xTup e = none) (hn : (∃ x p, tg = .Name x p) ∨ ∃ ts k p, tg = .Tuple ts k p) : swappedStores [tg] e env = pure none := by
  rcases hn with ⟨x, p, rfl⟩ | ⟨ts, k, p, rfl⟩
  · cases e <;> rfl
  · rcases h with h | h
    · simp [xTup] at h
    · cases e <;> first | rfl | simp [xTup] at h
theorem ckG_shape {sc : Scope} {t : Tg} {tg : Expr} (h : ckG N sc t tg = true) : (∃ x p, tg = .Name x p) ∨ ∃ ts k p, tg = .Tuple ts k p := by
  cases t with
  | var i =>
    rw [ckG] at h
    split at h
    · rename_i x ex
      obtain ⟨p, rfl⟩ := xName_iff ex
      exact .inl ⟨_, _, rfl⟩
    · cases h
  | tup ts =>
    rw [ckG] at h
    split at h
    · rename_i x ex
      obtain ⟨j, p, rfl⟩ := xTup_iff ex
      exact .inr ⟨_, _, _, rfl⟩
    · cases h
theorem as1 {tg : Expr} {env : Env} (hn : (∃ x p, tg = .Name x p) ∨ ∃ ts k p, tg = .Tuple ts k p) : (assignEach [tg] env).map (·.2) = [assign tg env] := by
  rcases hn with ⟨x, p, rfl⟩ | ⟨ts, k, p, rfl⟩ <;> rfl
theorem ckG_any {sc0 : Scope} {X : Cx} {t : Tg} {e : Expr} (hc : (bn.er = none → X.calm = true)) (hor : (cold bn || isVarT t) = true) (hK : X.K = C.K) (hn : X.N.Nodup) (hN : X.N = N) (hl : ∀ x, locB sc0 x = true → Loc X.env.scope x ∧ (X.fn x = true ∨ X.env.scope.names.lookup x = some .local)) (h : ckG N sc0 t e = true) : PG X e (tG C t) := by
  rw [Bool.or_eq_true] at hor
  rcases hor with z | z
  · exact ckG_ok (hc (cold_iff z)) hK hn hN hl h
  · cases t with
    | var i =>
      rw [ckG] at h
      split at h
      · rename_i x ex
        obtain ⟨p, rfl⟩ := xName_iff ex
        rw [Bool.and_eq_true] at h
        obtain ⟨h1, h2⟩ := hl x h.2
        exact sg_var hn (hN ▸ at_iff h.1) h1 h2
      · cases h
    | tup ts => cases z
theorem sOk_asg (hP : ∀ f, C.P f = tab[f]?) {W : WX} {sc : Scope} {X : Cx} {t : Tg} {a : E} {st : Stmt} (h : CXS C c k bn N W sc X) (q : ckS tab bn N sc (.asg t a) st = true) : PS X st (tS C c W (.asg t a)) := by
  have h1 := h.cx1
  rw [ckS] at q
  split at q
  · rename_i tg e ex
    obtain ⟨p, rfl⟩ := xAsg_iff ex
    split at q
    · rename_i ts vs et ev
      obtain ⟨j, p1, rfl⟩ := xTup_iff et
      obtain ⟨j2, p2, rfl⟩ := xTup_iff ev
      have hk : X.env.scope.kind = .function := by rw [h1.sc]; exact h.kd
      rw [Bool.and_eq_true] at q
      have hz := cold_iff q.1
      replace q := q.2
      split at q
      · rename_i eb
        rw [Bool.and_eq_true] at q
        have hw := swB_iff (env := X.env) (ts := ts) (vs := vs) (k := j) (k2 := j2) (p := p1) (p2 := p2) hk (by rw [h1.sc]; exact eb)
        exact ss_asg ((eOk hP a).ev h1 q.2).1 (ckG_ok (h1.cx.calm hz) h1.cx.hK h1.cx.nd h1.N h.loc q.1) rfl hw rfl
      · rename_i names eb
        have hw := swB_iff (env := X.env) (ts := ts) (vs := vs) (k := j) (k2 := j2) (p := p1) (p2 := p2) hk (by rw [h1.sc]; exact eb)
        unfold ckPar at q
        split at q
        · rename_i i1 i2 a1 a2 x' px y' py e1 e2 x y
          simp only [Bool.and_eq_true, Bool.not_eq_true'] at q
          obtain ⟨⟨⟨⟨⟨⟨⟨q1, q2⟩, q3⟩, q4⟩, q5⟩, q6⟩, q7⟩, q8⟩ := q
          have ex := sq_iff q1
          have ey := sq_iff q2
          subst ex ey
          exact ss_par2 (h1.cx.calm hz) h1.cx.nd (h1.N ▸ at_iff q3) (h1.N ▸ at_iff q4) (Nat.ne_of_beq_eq_false q5) (h1.sc ▸ lclB_iff q6) (h1.sc ▸ lclB_iff q7) ((lOk hP [a1, a2]).args h1 q8) hw
        · rename_i i1 i2 i3 a1 a2 a3 x' px y' py z' pz e1 e2 e3 x y z
          simp only [Bool.and_eq_true, Bool.not_eq_true'] at q
          obtain ⟨⟨⟨⟨⟨⟨⟨⟨⟨⟨⟨⟨q1, q2⟩, q3⟩, q4⟩, q5⟩, q6⟩, q7⟩, q8⟩, q9⟩, q10⟩, q11⟩, q12⟩, q13⟩ := q
          have ex := sq_iff q1
          have ey := sq_iff q2
          have ez := sq_iff q3
          subst ex ey ez
          exact ss_par3 (h1.cx.calm hz) h1.cx.nd (h1.N ▸ at_iff q4) (h1.N ▸ at_iff q5) (h1.N ▸ at_iff q6) (Nat.ne_of_beq_eq_false q7) (Nat.ne_of_beq_eq_false q8) (Nat.ne_of_beq_eq_false q9) (h1.sc ▸ lclB_iff q10) (h1.sc ▸ lclB_iff q11) (h1.sc ▸ lclB_iff q12) ((lOk hP [a1, a2, a3]).args h1 q13) hw
        · cases q
      · cases q
    · rename_i hne
      simp only [Bool.and_eq_true] at q
      have hsh := ckG_shape q.1.2
      have hor : xTup tg = none ∨ xTup e = none := by
        cases e1 : xTup tg with
        | none => exact .inl rfl
        | some ts =>
          cases e2 : xTup e with
          | none => exact .inr rfl
          | some vs => exact (hne ts vs e1 e2).elim
      exact ss_asg ((eOk hP a).ev h1 q.2).1 (ckG_any h1.cx.calm q.1.1.1 h1.cx.hK h1.cx.nd h1.N h.loc q.1.2) (swF_iff (by rw [h1.sc]; exact q.1.1.2)) (sw_none hor hsh) (as1 hsh)
  · cases q
theorem sOk_par2 (hP : ∀ f, C.P f = tab[f]?) {W : WX} {sc : Scope} {X : Cx} {i j : Nat} {oi oj : Bool} {a b : E} {st : Stmt} (h : CXS C c k bn N W sc X) (q : ckS tab bn N sc (.par2 i oi a j oj b) st = true) : PS X st (tS C c W (.par2 i oi a j oj b)) := by
  have h1 := h.cx1
  rw [ckS] at q
  split at q
  · rename_i tg e ex
    obtain ⟨p, rfl⟩ := xAsg_iff ex
    split at q
    · rename_i ts vs et ev
      obtain ⟨j1, p1, rfl⟩ := xTup_iff et
      obtain ⟨j2, p2, rfl⟩ := xTup_iff ev
      have hk : X.env.scope.kind = .function := by rw [h1.sc]; exact h.kd
      rw [Bool.and_eq_true] at q
      have hz := cold_iff q.1
      replace q := q.2
      split at q
      · rename_i names eb
        have hw := swB_iff (env := X.env) (ts := ts) (vs := vs) (k := j1) (k2 := j2) (p := p1) (p2 := p2) hk (by rw [h1.sc]; exact eb)
        unfold ckPar2 at q
        split at q
        · rename_i x' px y' py e1 e2 x y
          simp only [Bool.and_eq_true, Bool.not_eq_true'] at q
          obtain ⟨⟨⟨⟨⟨⟨⟨⟨q1, q2⟩, q3⟩, q4⟩, q5⟩, q6⟩, q7⟩, q8⟩, q9⟩ := q
          have ex := sq_iff q1
          have ey := sq_iff q2
          subst ex ey
          exact ss_parX (h1.cx.calm hz) h1.cx.nd (h1.N ▸ at_iff q3) (h1.N ▸ at_iff q4) (Nat.ne_of_beq_eq_false q5) (h1.sc ▸ lclB_iff q6) (h1.sc ▸ lclB_iff q7) (noStarB_iff q8.1) (noStarB_iff q9.1) ((eOk hP a).ev h1 q8.2).1 ((eOk hP b).ev h1 q9.2).1 hw
        · cases q
      · cases q
    · cases q
  · cases q
theorem sOk_par3 (hP : ∀ f, C.P f = tab[f]?) {W : WX} {sc : Scope} {X : Cx} {i j l : Nat} {oi oj ol : Bool} {a b d : E} {st : Stmt} (h : CXS C c k bn N W sc X) (q : ckS tab bn N sc (.par3 i oi a j oj b l ol d) st = true) : PS X st (tS C c W (.par3 i oi a j oj b l ol d)) := by
  have h1 := h.cx1
  rw [ckS] at q
  split at q
  · rename_i tg e ex
    obtain ⟨p, rfl⟩ := xAsg_iff ex
    split at q
    · rename_i ts vs et ev
      obtain ⟨j1, p1, rfl⟩ := xTup_iff et
      obtain ⟨j2, p2, rfl⟩ := xTup_iff ev
      have hk : X.env.scope.kind = .function := by rw [h1.sc]; exact h.kd
      rw [Bool.and_eq_true] at q
      have hz := cold_iff q.1
      replace q := q.2
      split at q
      · rename_i names eb
        have hw := swB_iff (env := X.env) (ts := ts) (vs := vs) (k := j1) (k2 := j2) (p := p1) (p2 := p2) hk (by rw [h1.sc]; exact eb)
        unfold ckPar3 at q
        split at q
        · rename_i x' px y' py z' pz e1 e2 e3 x y z
          simp only [Bool.and_eq_true, Bool.not_eq_true'] at q
          obtain ⟨⟨⟨⟨⟨⟨⟨⟨⟨⟨⟨⟨⟨⟨q1, q2⟩, q3⟩, q4⟩, q5⟩, q6⟩, q7⟩, q8⟩, q9⟩, q10⟩, q11⟩, q12⟩, q13⟩, q14⟩, q15⟩ := q
          have ex := sq_iff q1
          have ey := sq_iff q2
          have ez := sq_iff q3
          subst ex ey ez
          exact ss_parX3 (h1.cx.calm hz) h1.cx.nd (h1.N ▸ at_iff q4) (h1.N ▸ at_iff q5) (h1.N ▸ at_iff q6) (Nat.ne_of_beq_eq_false q7) (Nat.ne_of_beq_eq_false q8) (Nat.ne_of_beq_eq_false q9) (h1.sc ▸ lclB_iff q10) (h1.sc ▸ lclB_iff q11) (h1.sc ▸ lclB_iff q12) (noStarB_iff q13.1) (noStarB_iff q14.1) (noStarB_iff q15.1) ((eOk hP a).ev h1 q13.2).1 ((eOk hP b).ev h1 q14.2).1 ((eOk hP d).ev h1 q15.2).1 hw
        · cases q
      · cases q
    · cases q
  · cases q
theorem sOk_own (hP : ∀ f, C.P f = tab[f]?) {W : WX} {sc : Scope} {X : Cx} {i : Nat} {a : E} {st : Stmt} (h : CXS C c k bn N W sc X) (q : ckS tab bn N sc (.own i a) st = true) : PS X st (tS C c W (.own i a)) := by
  have h1 := h.cx1
  rw [ckS] at q
  split at q
  · rename_i tg e ex
    obtain ⟨p, rfl⟩ := xAsg_iff ex
    rw [Bool.or_eq_true] at q
    rcases q with q | q
    · rw [Bool.and_eq_true] at q
      obtain ⟨q0, q⟩ := q
      split at q
      · rename_i x en
        obtain ⟨px, rfl⟩ := xName_iff en
        simp only [Bool.and_eq_true] at q
        obtain ⟨l1, l2⟩ := h.loc x q.1.2
        exact ss_own h1.cx.nd (h1.N ▸ at_iff q.1.1) l1 l2 ((eOk hP a).ev h1 q.2).1 (swF_iff (by rw [h1.sc]; exact q0))
      · cases q
    · unfold ckOwn at q
      split at q
      · rename_i x py e0 t0 i0 ifs s p0 el
        have e1 := xLc_iff el
        subst e1
        simp only [Bool.and_eq_true, Bool.not_eq_true'] at q
        obtain ⟨⟨⟨⟨⟨q1, q2⟩, q3⟩, q4⟩, q5⟩, q6⟩ := q
        cases a with
        | lc elt tg2 it cn vs =>
          rw [ckE] at q6
          split at q6
          · rename_i x2 t i2 ifs2 scope p3 ex2
            have e2 := xLc_iff ex2
            cases e2
            simp only [Bool.and_eq_true] at q6
            obtain ⟨⟨⟨⟨⟨⟨⟨r0, r1⟩, r2⟩, r3⟩, r4⟩, r5⟩, r6⟩, r7⟩ := q6
            have hz := cold_iff r0
            have e3 : (ownL N vs).map (·.2) = vs := ownL_snd
            have r := ss_ownC (spos := p) (py := py) (pos := p0) (scope := s) (tg := tg2) (ifs := ifs) (cn := cn) (elt := elt) (own := ownL N vs) h1.cx hz (h1.N ▸ at_iff q2) (h1.sc ▸ lclB_iff q3) (by rw [h1.sc]; exact h.kd) q4 q5 (notSet_iff r1) (by rw [h1.N, h1.sc]; exact r2) (by rw [e3]; exact r3) ((eOk hP it).it h1 r5 r1)
              (fun s' H Ca cl fp => ckG_ok (X := Cx.bk X s s' H Ca cl fp) (h1.cx.calm hz) h1.cx.hK h1.cx.nd h1.N bk_loc r4)
              (fun s H Ca cl fp => cOk hP cn (h1.bk hz) r7)
              (fun s H Ca cl fp => ((eOk hP elt).ev (h1.bk hz) r6).1)
            rw [e3] at r
            exact r
          · cases q6
        | _ => cases q1
      · cases q
  · cases q
theorem ClsAt.alike {G G' : Nat → Addr} {cl : List Cl} {j : Nat} {cd : Cl} {P : Program} {w : World} {K : PySem.W.Frag} {mg : Str → Option Value} {base : Heap} (g : ∀ j, G' (5000 + j) = G (5000 + j)) (z : ClsAt G k cl j cd P w K mg base) : ClsAt G' k cl j cd P w K mg base := by
  have ev : ∀ i ci, clsV G' i ci = clsV G i ci := fun i ci => by
    unfold clsV
    rw [g]
  refine ⟨?_, z.blt, z.nm, ?_, ?_, ?_, ?_, ?_⟩
  · rw [g]; exact z.own
  · intro e i ci ei
    rw [g, ev]
    exact z.sub e i ci ei
  · rw [g]; exact z.isc
  · rw [g]; exact z.xf
  · rw [g]; exact z.mk0
  · rw [g]; exact z.mk1
/-- the places, in an except suite -/
def errG (G : Nat → Addr) (a : Addr) (cc : Nat) (d : Option Addr) : Nat → Addr := fun f => if f = 4096 then a else if f = 4097 then d.getD 0 else if f = 4099 then (if d.isSome then 1 else 0) else if f = 4100 then cc else G f
theorem errG_low {G : Nat → Addr} {a : Addr} {cc : Nat} {d : Option Addr} : Alike G (errG G a cc d) := fun f h => by
  unfold errG
  rw [if_neg (by omega), if_neg (by omega), if_neg (by omega), if_neg (by omega)]
theorem errG_low' {G : Nat → Addr} {a : Addr} {cc : Nat} {d : Option Addr} : Alike (errG G a cc d) G := fun f h => (errG_low f h).symm
theorem errG_cls {G : Nat → Addr} {a : Addr} {cc : Nat} {d : Option Addr} : ∀ j, errG G a cc d (5000 + j) = G (5000 + j) := fun j => by
  unfold errG
  rw [if_neg (by omega), if_neg (by omega), if_neg (by omega), if_neg (by omega)]
section
variable {G : Nat → Addr} {a cc : Nat} {d : Option Addr}
theorem errG0 : errG G a cc d 4096 = a := by unfold errG; simp
theorem errG1 : errG G a cc d 4097 = d.getD 0 := by unfold errG; simp
theorem errG3 : errG G a cc d 4099 = if d.isSome then 1 else 0 := by unfold errG; simp
theorem errG4 : errG G a cc d 4100 = cc := by unfold errG; simp
end
abbrev Cfg.suite (C : Cfg) (a : Addr) (cc : Nat) (d : Option Addr) : Cfg := { C with G := errG C.G a cc d, P := fun _ => none }
theorem HpOk.alike {K : PySem.W.Frag} {G G' : Nat → Addr} {H0 H : Hp} {ρ0 ρ : List Addr} {T : Sto} (g : Alike G G') (h : HpOk K G H0 ρ0 H ρ T) : HpOk K G' H0 ρ0 H ρ T :=
  ⟨⟨h.sto.len, h.sto.nd, fun n a xs e1 e2 => let ⟨vs, e, t⟩ := h.sto.at_ n a xs e1 e2; ⟨vs, e, t.alike g⟩⟩, h.keep, h.pre, h.new, h.l0⟩
/-- into the suite -/
theorem suite_ok {H0 H : Hp} {ρ0 ρ : List Addr} {σ : L2.St} {η : En} {T : Sto} {n i a cc : Nat} {cls : Value} {d : Option Addr} {pl : List D} {p : Option (Str × D)} {cl : List Cl} (o : OkC C H0 ρ0 H ρ σ η T) (hn : σ.length = n) (hi : i < n) (ex : exR C.K C.G cl H ρ cls d cc pl) (ep : errPl pl = some p) (En_ : En) (eE : En_ = En.put (List.replicate n Slot.no) i (.err cc p)) :
    OkC (C.suite a cc d) H0 ρ0 H ρ (σ.set i (some (.ref a))) En_ T := by
  subst eE
  have gp : ∀ j, (En.put (List.replicate n Slot.no) i (.err cc p)).get j = if i = j then .err cc p else .no := fun j => by
    rw [get_put (by rw [List.length_replicate]; exact hi)]
    split
    · rfl
    · unfold En.get
      rw [List.getD_eq_getElem?_getD, List.getElem?_replicate]
      split <;> rfl
  refine ⟨o.hp.alike errG_low, ?_, fun j => ?_, fun j j' xs ys b _ e1 => ?_⟩
  · unfold En.put
    rw [List.length_set, List.length_set, List.length_replicate, hn]
  · rw [gp]
    split
    · rename_i e
      subst e
      obtain ⟨cd, e1, e2, e3, e4⟩ := ex
      refine ⟨?_, errG4 (G := C.G) (a := a) (cc := cc) (d := d), fun ep0 => ?_, fun f y ef => ?_⟩
      · rw [List.getElem?_set_self (by omega)]
        show some (some (V.ref a)) = some (some (.ref (errG C.G a cc d 4096)))
        rw [errG0]
      · rcases e4 with ⟨z1, z2⟩ | ⟨f, x, dd, fs, v, z1, z2, _⟩
        · subst z2
          show errG C.G a cc none 4099 = 0
          rw [errG3]
          rfl
        · subst z1
          subst ep0
          cases ep
      · subst ef
        rcases e4 with ⟨z1, z2⟩ | ⟨f', x, dd, fs, v, z1, z2, z3, z4, z5⟩
        · subst z1
          cases ep
        · subst z1 z2
          cases ep
          refine ⟨?_, fs, v, ?_, z4, z5.alike errG_low⟩
          · show errG C.G a cc (some dd) 4099 ≠ 0
            rw [errG3]
            simp
          · show H (errG C.G a cc (some dd) 4097) = _
            rw [errG1]
            exact z3
    · trivial
  · rw [gp] at e1
    split at e1 <;> cases e1
theorem clsV_names {W : WX} {X : Cx} {x : Nat} {cx : Cl} (h : Cxt C c k bn W X) (hq : bn.cl[x]? = some cx) (hg : Gl X cx.name) : Names X cx.name (clsV C.G x cx) := by
  have z := h.cls x cx hq
  refine ⟨hg, z.nm.1, ?_⟩
  unfold clsV
  cases e : cx.bt with
  | none => exact .inl (z.own e)
  | some n =>
    obtain ⟨b1, b2⟩ := z.blt n e
    exact .inr ⟨b1, b2, z.nm.2⟩
/-- try .. except X as n -/
theorem ss_try {W : WX} {sc : Scope} {X : Cx} {b s : List S} {x i : Nat} {cs : List Nat} {cx : Cl} {n : Str} {body suite : List Stmt} {b₀ : Stmt} {np pos' pos : Pos} (h : CXS C c k bn N W sc X) (hz : bn.er = none) (hq : bn.cl[x]? = some cx) (hgc : Gl X cx.name) (hcs : ∀ j cj, bn.cl[j]? = some cj → cs.contains j = cj.sup.contains x) (hi : N[i]? = some n) (hln : X.env.kindOf n = some .local)
    (hb : ∀ {W' : WX} {X' : Cx}, CXS C c k bn N W' sc X' → PSs X' body (tSs C c W' b))
    (hs : ∀ {C' : Cfg} {W' : WX} {X' : Cx}, CXS C' c k { bn with er := some n } N W' sc X' → (∀ f, C'.P f = none) → PSs X' (b₀ :: suite) (tSs C' c W' s)) :
    PS X (.Try body [.ExceptHandler (some (.Name cx.name np)) (some n) (b₀ :: suite) pos'] [] [] pos) (tS C c W (.try b x cs i s)) := by
  have cx1 := h.cx1.cx
  have hiX : X.N[i]? = some n := by rw [h.cx1.N]; exact hi
  have hil : i < X.N.length := (List.getElem?_eq_some_iff.mp hiX).1
  refine ⟨fun pins st σ H Dd I ⟨H0, ρ0, η, ρ, T, o, p⟩ => ?_⟩
  have hlen : σ.length = X.N.length := I.len
  have hel : η.length = X.N.length := o.len.trans hlen
  let ts : Addr → Value → Option Addr → TS := fun a cls d => fun D σ H => ∃ cc cd, bn.cl[cc]? = some cd ∧ cd.bt = none ∧ cls = .ref (C.G (5000 + cc)) ∧ tSs (C.suite a cc d) c (fun _ _ _ _ => False) s D σ H
  refine (ps_try_as (pos := pos) (pos' := pos') (np := np) (x := cx.name) (n := n) (c := clsV C.G x cx) (i := i) (Wout := W) (tb := fun W' => tSs C c (fun cls d σ H => σ.length = X.N.length → W' cls d σ H) b) (ts := ts) h.stk h.frm cx1.nd hiX hln (clsV_names cx1 hq hgc) cx1.tk (fun W' pn xe tk po => ?_) (fun a oe cls d pn hzz hfl => ?_)).run pins st σ H Dd I ?_
  · -- the body
    refine hb ⟨⟨⟨cx1.hK, cx1.nd, cx1.room, cx1.hu, cx1.calm, cx1.k2, fun u s' ⟨a, B, sI, pins, σ, H, cls, d, e, J, nb, up, sky, na, os, ag, w⟩ => tk u s' ⟨a, B, sI, pins, σ, H, cls, d, e, J, nb, up, sky, na, os, ag, w J.len⟩, cx1.free, fun f fd e => let z := cx1.fns f fd e; ⟨z.at_, z.kp, z.ok, z.len⟩, cx1.cls, fun nm e => absurd (hz.symm.trans e) (fun z => nomatch z), cx1.hex⟩, h.cx1.sc, h.cx1.N⟩, h.kd, fun _ => po, h.stk, h.frm, h.loc⟩
  · -- the suite
    refine ⟨fun pins st σ H D J ⟨cc, cd, e1, e2, e3, q⟩ => ?_⟩
    have g := errG_cls (G := C.G) (a := a) (cc := cc) (d := d)
    have hx : CXS (C.suite a cc d) c k { bn with er := some n } N (fun _ _ _ _ => False) sc (X.suite a ((a, oe) :: pn)) := by
      refine ⟨⟨⟨cx1.hK, cx1.nd, (by intro e; cases e), cx1.hu, (by intro e; cases e), cx1.k2, fun u s' ⟨_, _, _, _, _, _, _, _, _, _, _, _, _, _, _, _, w⟩ => w.elim, cx1.free, (by intro f fd e; cases e), fun j cj e => (cx1.cls j cj e).alike g, fun nm e => ⟨X, a, oe, d, pn, cd, rfl, ?_, ?_, hfl, ?_, e2, ?_⟩, (by intro e; cases e)⟩, h.cx1.sc, h.cx1.N⟩, h.kd, (by intro e; cases e), h.stk, h.frm, h.loc⟩
      · show errG C.G a cc d 4096 = a
        unfold errG
        simp
      · have z : errG C.G a cc d 4100 = cc := by unfold errG; simp
        show Zc (.ref (errG C.G a cc d (5000 + errG C.G a cc d 4100))) d oe
        rw [g, z, ← e3]
        exact hzz
      · have z : errG C.G a cc d 4100 = cc := by unfold errG; simp
        show bn.cl[errG C.G a cc d 4100]? = some cd
        rw [z]
        exact e1
      · show d = if errG C.G a cc d 4099 = 0 then none else some (errG C.G a cc d 4097)
        unfold errG
        cases d <;> simp
    exact (hs hx fun f => rfl).run pins st σ H D J q
  · -- what the body leaves
    refine ⟨H0, ρ0, η, ρ, T, o, ?_⟩
    rw [exS] at p
    cases e : exB c b η T with
    | ex cc pl T1 =>
      rw [e] at p
      simp only at p
      intro cls d σ1 η1 H1 ρ1 o1 fx ex hl1
      obtain ⟨cd, z1, z2, z3, z4⟩ := (cx1.hex hz _ _ _ _ _ _).mp ex
      have sub := ((cx1.cls cc cd z1).sub z2 x cx hq).2
      refine ⟨cd.sup.contains x, ?_, fun hb1 a na => ?_, fun hb0 => ?_⟩
      · rw [z3]
        exact sub
      · rw [hcs cc cd z1, if_pos hb1] at p
        refine ⟨cc, cd, z1, z2, z3, ?_⟩
        cases ep : errPl pl with
        | none =>
          rw [ep] at p
          exact p.elim
        | some pp =>
          rw [ep] at p
          simp only at p
          have eEn : η.errs i cc pp = En.put (List.replicate X.N.length Slot.no) i (.err cc pp) := by
            unfold En.errs
            rw [hel]
          refine ⟨H0, ρ0, η.errs i cc pp, ρ1, T1, suite_ok o1 hl1 hil ⟨cd, z1, z2, z3, z4⟩ ep _ eEn, ?_⟩
          cases r : exB c s (η.errs i cc pp) T1 with
          | rt d2 T2 =>
            rw [r] at p
            exact fun v H2 ρ2 hp fx2 rv => p v H2 ρ2 (hp.alike errG_low') (fx.trans fx2) (rv.alike errG_low')
          | nx η3 T2 =>
            rw [r] at p
            have p2 : PoS C W H0 ρ0 H ρ (if η3.length = η.length then .nx (List.replicate η.length .no) T2 else .no) Dd := p
            split at p2
            · rename_i e3
              intro σ3 H3 ρ3 o3 fx3
              refine p2 _ H3 ρ3 ⟨o3.hp.alike errG_low', ?_, fun j => ?_, fun j j' xs ys b _ e1 => ?_⟩ (fx.trans fx3)
              · rw [List.length_set, List.length_replicate, ← e3]
                exact o3.len
              · have : En.get (List.replicate η.length Slot.no) j = .no := by
                  unfold En.get
                  rw [List.getD_eq_getElem?_getD, List.getElem?_replicate]
                  split <;> rfl
                rw [this]
                trivial
              · have : En.get (List.replicate η.length Slot.no) j = .no := by
                  unfold En.get
                  rw [List.getD_eq_getElem?_getD, List.getElem?_replicate]
                  split <;> rfl
                rw [this] at e1
                cases e1
            · exact p2.elim
          | bk η3 T2 =>
            rw [r] at p
            exact p.elim
          | ct η3 T2 =>
            rw [r] at p
            exact p.elim
          | ex cc2 pl2 T2 =>
            rw [r] at p
            exact p.elim
          | no =>
            rw [r] at p
            exact p.elim
      · rw [hcs cc cd z1, if_neg (by rw [hb0]; exact Bool.false_ne_true)] at p
        exact p cls d σ1 η1 H1 ρ1 o1 fx ex
    | nx η1 T1 =>
      rw [e] at p
      exact p
    | rt d T1 =>
      rw [e] at p
      exact p
    | bk η1 T1 =>
      rw [e] at p
      exact p
    | ct η1 T1 =>
      rw [e] at p
      exact p
    | no =>
      rw [e] at p
      exact p.elim
end
section
variable {c : Call} {N : List Str} {k : Nat}
mutual
theorem sOk {C : Cfg} {tab : List Fd} {bn : Bn} (hP : ∀ f, C.P f = tab[f]?) : ∀ (s : S) {W : WX} {sc : Scope} {X : Cx} {st : Stmt}, CXS C c k bn N W sc X → ckS tab bn N sc s st = true → PS X st (tS C c W s)
  | .asg t a, W, sc, X, st, h, q => sOk_asg hP h q
  | .par2 i oi a j oj b, W, sc, X, st, h, q => sOk_par2 hP h q
  | .par3 i oi a j oj b l ol d, W, sc, X, st, h, q => sOk_par3 hP h q
  | .own i a, W, sc, X, st, h, q => sOk_own hP h q
  | .ret a, W, sc, X, st, h, q => by
    rw [ckS] at q
    split at q
    · rename_i e ex
      obtain ⟨p, rfl⟩ := xRet_iff ex
      exact ss_ret ((eOk hP a).ev h.cx1 q).1
    · cases q
  | .retN, W, sc, X, st, h, q => by
    rw [ckS] at q
    split at q
    · rename_i ex
      obtain ⟨p, rfl⟩ := xRet_iff ex
      exact ss_retN
    · cases q
  | .ife t a b, W, sc, X, st, h, q => by
    rw [ckS] at q
    split at q
    · rename_i e as bs ex
      obtain ⟨p, rfl⟩ := xIfS_iff ex
      simp only [Bool.and_eq_true] at q
      exact ss_if ((eOk hP t).ev h.cx1 q.1.1).2 (bOk hP a h q.1.2) (bOk hP b h q.2)
    · cases q
  | .for tg it b, W, sc, X, st, h, q => by
    rw [ckS] at q
    split at q
    · rename_i t e bs ex
      obtain ⟨p, rfl⟩ := xForS_iff ex
      simp only [Bool.and_eq_true] at q
      obtain ⟨⟨⟨⟨q0, q1⟩, q2⟩, q3⟩, q4⟩ := q
      have hz := cold_iff q0
      exact ss_for h.cx1.cx hz (h.po hz) ((eOk hP it).it h.cx1 q3 q1) (ckG_ok (h.cx1.cx.calm hz) h.cx1.cx.hK h.cx1.cx.nd h.cx1.N h.loc q2) (bOk hP b h q4) (notSet_iff q1)
    · cases q
  | .whl t b, W, sc, X, st, h, q => by
    rw [ckS] at q
    split at q
    · rename_i e bs ex
      obtain ⟨p, rfl⟩ := xWhlS_iff ex
      simp only [Bool.and_eq_true] at q
      exact ss_whl h.cx1.cx (h.po (cold_iff q.1.1)) ((eOk hP t).ev h.cx1 q.1.2).2 (bOk hP b h q.2)
    · cases q
  | .brk, W, sc, X, st, h, q => by
    obtain ⟨p, rfl⟩ := isBrk_iff (by rw [ckS] at q; exact q)
    exact ss_brk
  | .cnt, W, sc, X, st, h, q => by
    obtain ⟨p, rfl⟩ := isCnt_iff (by rw [ckS] at q; exact q)
    exact ss_cnt
  | .pass, W, sc, X, st, h, q => by
    obtain ⟨p, rfl⟩ := isPass_iff (by rw [ckS] at q; exact q)
    exact ss_pass
  | .exp a, W, sc, X, st, h, q => by
    rw [ckS] at q
    split at q
    · rename_i e ex
      obtain ⟨p, rfl⟩ := xExp_iff ex
      rw [Bool.and_eq_true] at q
      exact ss_exp ((eOk hP a).ev h.cx1 q.2).1 (notComp_iff q.1)
    · cases q
  | .app i a, W, sc, X, st, h, q => by
    rw [ckS] at q
    split at q
    · rename_i e ex
      obtain ⟨p, rfl⟩ := xExp_iff ex
      split at q
      · rename_i x px nm e1 em
        obtain ⟨ap, p2, rfl, hl⟩ := xMeth_iff em
        simp only [Bool.and_eq_true] at q
        obtain ⟨⟨⟨⟨⟨q1, q2⟩, q3⟩, q4⟩, q5⟩, q6⟩ := q
        have e0 := sq_iff q1
        subst e0
        obtain ⟨h1, h2, _⟩ := okNm_iff q4
        exact ss_app h.cx1.cx (h.cx1.N ▸ at_iff q2) (h.cx1.sc ▸ visB_iff q3) h1 h2 (noStarB_iff q5) hl ((eOk hP a).ev h.cx1 q6).1
      · cases q
    · cases q
  | .ext i a, W, sc, X, st, h, q => by
    rw [ckS] at q
    split at q
    · rename_i e ex
      obtain ⟨p, rfl⟩ := xExp_iff ex
      split at q
      · rename_i x px nm e1 em
        obtain ⟨ap, p2, rfl, hl⟩ := xMeth_iff em
        simp only [Bool.and_eq_true] at q
        obtain ⟨⟨⟨⟨⟨q1, q2⟩, q3⟩, q4⟩, q5⟩, q6⟩ := q
        have e0 := sq_iff q1
        subst e0
        obtain ⟨h1, h2, _⟩ := okNm_iff q4
        exact ss_ext h.cx1.cx (h.cx1.N ▸ at_iff q2) (h.cx1.sc ▸ visB_iff q3) h1 h2 (noStarB_iff q5) hl ((eOk hP a).ev h.cx1 q6).1
      · cases q
    · cases q
  | .popO i, W, sc, X, st, h, q => by
    rw [ckS] at q
    split at q
    · rename_i e ex
      obtain ⟨p, rfl⟩ := xExp_iff ex
      split at q
      · rename_i x px nm em
        obtain ⟨ap, p2, rfl, hl⟩ := xMeth_iff em
        simp only [Bool.and_eq_true] at q
        obtain ⟨⟨⟨q1, q2⟩, q3⟩, q4⟩ := q
        have e0 := sq_iff q1
        subst e0
        obtain ⟨h1, h2, _⟩ := okNm_iff q4
        exact ss_popO h.cx1.cx (h.cx1.N ▸ at_iff q2) (h.cx1.sc ▸ visB_iff q3) h1 h2 hl
      · cases q
    · cases q
  | .setO i b a, W, sc, X, st, h, q => by
    rw [ckS] at q
    split at q
    · rename_i x px e2 p2 e1 ex
      obtain ⟨p, rfl⟩ := xAsg_iff ex
      simp only [Bool.and_eq_true] at q
      obtain ⟨⟨⟨⟨⟨q1, q2⟩, q3⟩, q4⟩, q5⟩, q6⟩ := q
      obtain ⟨h1, h2, _⟩ := okNm_iff q3
      exact ss_setO h.cx1.cx (h.cx1.N ▸ at_iff q1) (h.cx1.sc ▸ visB_iff q2) h1 h2 (notSlice_iff q4).1 ((eOk hP a).ev h.cx1 q5).1 ((eOk hP b).ev h.cx1 q6).1
    · cases q
  | .setL d b a, W, sc, X, st, h, q => by
    rw [ckS] at q
    split at q
    · rename_i e3 e2 p2 e1 ex
      obtain ⟨p, rfl⟩ := xAsg_iff ex
      simp only [Bool.and_eq_true] at q
      obtain ⟨⟨⟨q1, q2⟩, q3⟩, q4⟩ := q
      exact ss_setL (notSlice_iff q1).1 ((eOk hP a).ev h.cx1 q2).1 ((eOk hP d).ev h.cx1 q3).1 ((eOk hP b).ev h.cx1 q4).1
    · cases q
  | .raise j f as, W, sc, X, st, h, q => by
    rw [ckS] at q
    unfold raiseB at q
    split at q
    · rename_i u es cd ex ecd
      obtain ⟨p, p2, p3, rfl⟩ := xRaise_iff ex
      simp only [Bool.and_eq_true] at q
      obtain ⟨⟨⟨⟨⟨q1, q2⟩, q3⟩, q4⟩, q5⟩, q6⟩ := q
      have e1 := sq_iff q4
      subst e1
      have hg := glB_iff (X := X) (h.cx1.sc ▸ q5)
      split at q6
      · rename_i ef
        exact ss_raise0 h.cx1.cx (cold_iff q1) ecd (isOwn_iff q2) q3 ef hg
      · rename_i f g a e ef
        simp only [Bool.and_eq_true] at q6
        have e2 := sq_iff q6.1.1
        subst e2
        exact ss_raise1 h.cx1.cx (cold_iff q1) ecd (isOwn_iff q2) q3 ef hg (noStarB_iff q6.1.2) (sa_cons (noStarB_iff q6.1.2) ((eOk hP a).ev h.cx1 q6.2).1 sa_nil)
      · cases q6
    · cases q
  | .try b x cs i s, W, sc, X, st, h, q => by
    rw [ckS] at q
    split at q
    · rename_i body te n su ex
      obtain ⟨p, p2, rfl⟩ := xTry_iff ex
      simp only [Bool.and_eq_true, Bool.not_eq_true'] at q
      obtain ⟨⟨⟨⟨⟨⟨q1, q2⟩, q3⟩, q4⟩, q5⟩, q6⟩, q7⟩ := q
      unfold clsB at q2
      split at q2
      · rename_i cx u ec eu
        obtain ⟨p3, rfl⟩ := xName_iff eu
        simp only [Bool.and_eq_true] at q2
        have e1 := sq_iff q2.1.1
        subst e1
        cases su with
        | nil => cases q5
        | cons b₀ su =>
          have hln : X.env.kindOf n = some .local := by
            show X.env.scope.names.lookup n = _
            rw [h.cx1.sc]
            exact lclB_iff q4
          exact ss_try h (cold_iff q1) ec (glB_iff (h.cx1.sc ▸ q2.1.2)) (csB_iff q2.2) (at_iff q3) hln (fun h' => bOk hP b h' q6) (fun h' e => bOk (tab := []) (fun f => by rw [e]; rfl) s h' q7)
      · cases q2
    · cases q
  | .frz i, W, sc, X, st, h, q => by simp [ckS] at q
theorem bOk {C : Cfg} {tab : List Fd} {bn : Bn} (hP : ∀ f, C.P f = tab[f]?) : ∀ (ss : List S) {W : WX} {sc : Scope} {X : Cx} {sts : List Stmt}, CXS C c k bn N W sc X → ckB tab bn N sc ss sts = true → PSs X sts (tSs C c W ss)
  | [], W, sc, X, sts, h, q => by
    cases sts with
    | nil => exact ss_nil
    | cons st sts =>
      rw [ckB] at q
      cases q
  | s :: ss, W, sc, X, sts, h, q => by
    rw [ckB] at q
    split at q
    · rename_i ef
      unfold isFrz at ef
      split at ef
      · exact ss_frz (bOk hP ss h q)
      · cases ef
    · split at q
      · rename_i st sts' eu
        cases sts with
        | nil => cases eu
        | cons st2 sts2 =>
          cases eu
          rw [Bool.and_eq_true] at q
          exact ss_cons (sOk hP s h q.1) (bOk hP ss h q.2)
      · cases q
end
end
end Ev
namespace Ev
open PySem PySem.Spec PyProof.Rows L2
/-! ### defs -/
def strsEq : List Str → List Str → Bool
  | [], [] => true
  | a :: as, b :: bs => sq a b && strsEq as bs
  | _, _ => false
theorem strsEq_iff : ∀ {a b : List Str}, strsEq a b = true → a = b
  | [], [], _ => rfl
  | [], _ :: _, h => by cases h
  | _ :: _, [], h => by cases h
  | a :: as, b :: bs, h => by
    rw [strsEq, Bool.and_eq_true] at h
    rw [sq_iff h.1, strsEq_iff h.2]
theorem natsEq_refl : ∀ {a : List Nat}, natsEq a a = true
  | [] => rfl
  | a :: as => by
    rw [natsEq, Bool.and_eq_true]
    exact ⟨Nat.beq_refl a, natsEq_refl⟩
theorem mem_of {x : Str} : ∀ {l : List Str}, x ∈ l → mem x l = true
  | [], h => by cases h
  | y :: ys, h => by
    rw [mem, Bool.or_eq_true]
    rcases List.mem_cons.mp h with h | h
    · subst h
      exact .inl natsEq_refl
    · exact .inr (mem_of h)
def nodupB : List Str → Bool
  | [] => true
  | x :: xs => !(mem x xs) && nodupB xs
theorem nodupB_iff : ∀ {l : List Str}, nodupB l = true → l.Nodup
  | [], _ => List.nodup_nil
  | x :: xs, h => by
    rw [nodupB, Bool.and_eq_true, Bool.not_eq_true'] at h
    refine List.nodup_cons.mpr ⟨fun m => ?_, nodupB_iff h.2⟩
    rw [mem_of m] at h
    exact absurd h.1 (by decide)
def argsB (a : Arguments) (ps : List Str) : Bool := match a with
  | ⟨[], as, none, [], [], none, []⟩ => strsEq (as.map (·.arg)) ps
  | _ => false
theorem argsB_iff {a : Arguments} {ps : List Str} (h : argsB a ps = true) : ∃ as, a = ⟨[], as, none, [], [], none, []⟩ ∧ as.map (·.arg) = ps := by
  unfold argsB at h
  split at h
  · exact ⟨_, rfl, strsEq_iff h⟩
  · cases h
def notFree : NameKind → Bool
  | .free => false
  | _ => true
def scB (N ps : List Str) (sc : Scope) : Bool := (match sc.kind with | .function => true | _ => false) && !sc.isCoroutine && !sc.isGenerator && nodupB N && strsEq (N.take ps.length) ps && (ps.all fun x => locB sc x) && (sc.names.all fun y => notFree y.2)
theorem scB_iff {N ps : List Str} {sc : Scope} (h : scB N ps sc = true) : FnScope N ps sc := by
  unfold scB at h
  simp only [Bool.and_eq_true, Bool.not_eq_true', List.all_eq_true] at h
  obtain ⟨⟨⟨⟨⟨⟨h1, h2⟩, h3⟩, h4⟩, h5⟩, h6⟩, h7⟩ := h
  refine ⟨?_, h2, h3, nodupB_iff h4, strsEq_iff h5, fun x m => locB_iff (h6 x m), fun y m e => ?_⟩
  · split at h1
    · assumption
    · cases h1
  · have := h7 y m
    rw [e] at this
    cases this
def ckD (tab : List Fd) (bn : Bn) (fd : Fd) (st : Stmt) : Bool := argsB (defArgs st) fd.ps && scB fd.N fd.ps (defScope st) && ckB tab bn fd.N (defScope st) fd.body (defBody st)
theorem kwOk_self {ps : List Str} (nd : ps.Nodup) : kwOk ps ps.length [] (List.range ps.length) = true := by
  unfold kwOk
  simp only [Bool.and_eq_true, decide_eq_true_eq, List.length_range, List.length_nil, Nat.add_zero, List.all_nil, and_true, List.all_eq_true, List.mem_range]
  have hx : ∀ j, j < ps.length → (match (List.range ps.length)[j]? with
      | some i => if i < ps.length then decide (i = j) else decide (j ≥ ps.length) && decide (([] : List Str)[i - ps.length]? = ps[j]?)
      | none => false) = true := fun j hj => by
    rw [List.getElem?_range hj]
    simp [hj]
  simp only [List.nodup_nil, nd, true_and, and_true]
  exact hx
theorem range_all {α : Type} (l : List α) : (List.range l.length).mapM (fun j => l[j]?) = some l := by
  have h : ∀ (n : Nat) (k : Nat), k + n = l.length → ((List.range n).map (· + k)).mapM (fun j => l[j]?) = some (l.drop k) := by
    intro n
    induction n with
    | zero =>
      intro k e
      rw [List.drop_eq_nil_of_le (by omega)]
      rfl
    | succ n ih =>
      intro k e
      rw [List.range_succ_eq_map, List.map_cons, List.mapM_cons, List.map_map]
      have e2 : ((· + k) ∘ Nat.succ) = (· + (k + 1)) := by
        funext x
        simp only [Function.comp]
        omega
      rw [e2, ih (k + 1) (by omega), Nat.zero_add, List.getElem?_eq_getElem (by omega)]
      rw [List.drop_eq_getElem_cons (show k < l.length by omega)]
      rfl
  have := h l.length 0 (by omega)
  simpa using this
theorem binds_all {K : PySem.W.Frag} {x qual : Str} {params : Arguments} {body : List Stmt} {scope : Scope} {f : Addr} {fdat : FuncData} {ps : List Str} (F : FunD K x qual params body scope [] [] f fdat) (ha : argsB params ps = true) (nd : ps.Nodup) :
    Binds K fdat ps [] ∧ (∀ (s : Shared) (us : List Value), us.length = ps.length → BindsTo s fdat ⟨us, []⟩ (ps.zip us)) ∧ ∀ (np : Nat) (ks : List Str) (perm : List Nat), kwOk ps np ks perm = true → ∀ (us ws zs : List Value), us.length = np → ws.length = ks.length → perm.mapM (fun j => (us ++ ws)[j]?) = some zs →
      ∀ s : Shared, K.In s.heap → BindsTo s fdat ⟨us, ks.zip ws⟩ (ps.zip zs) := by
  obtain ⟨as, ep, ea⟩ := argsB_iff ha
  obtain ⟨oc, od, dV, kV, doc, pm, an, cdv, ct, osl, rfl, lk, hcd, hD, hK⟩ := F.ex
  have e0 : dV = .none := by
    rcases hD with ⟨_, h⟩ | ⟨h, _⟩
    · exact h
    · exact absurd rfl h
  subst e0
  have all : ∀ (us : List Value), us.length = ps.length → bindArgs (PySem.W.fnOf x qual params body scope .none kV doc pm an cdv ct) ⟨us, []⟩ = pure (ps.zip us) := fun us hu => by
    have h := bind_gen (fd := PySem.W.fnOf x qual params body scope .none kV doc pm an cdv ct) (ks := []) (ws := []) (us := us) (zs := us) ep rfl ea (kwOk_self nd) hu rfl (by rw [List.append_nil, ← hu]; exact range_all us)
    exact h
  refine ⟨Binds.all all, fun s us hu => .of_eq (all us hu), fun np ks perm hk us ws zs hu hw hz s _ => .of_eq (bind_gen ep rfl ea hk hu hw hz)⟩
theorem start_get {N : List Str} {vs : List V} {i : Nat} {v : V} (h : vs[i]? = some v) : (L2.start N vs)[i]? = some (some v) := by
  unfold L2.start
  rw [List.getElem?_append_left (by rw [List.length_map]; exact (List.getElem?_eq_some_iff.mp h).1), List.getElem?_map, h]
  rfl
theorem startE_get {n : Nat} {ds : List D} {i : Nat} : (En.start n ds).get i = match ds[i]? with | some d => .val d | none => .no := by
  unfold En.start En.get
  rw [List.getD_eq_getElem?_getD]
  cases h : ds[i]? with
  | some d =>
    rw [List.getElem?_append_left (by rw [List.length_map]; exact (List.getElem?_eq_some_iff.mp h).1), List.getElem?_map, h]
    rfl
  | none =>
    have hl : ds.length ≤ i := List.getElem?_eq_none_iff.mp h
    rw [List.getElem?_append_right (by rw [List.length_map]; exact hl), List.getElem?_replicate]
    split <;> rfl
section
variable {tab : List Fd} {bn : Bn} {P : Program} {w : World} {K : PySem.W.Frag} {mg : Str → Option Value} {base : Heap} {G : Nat → Addr}
/-- the program's defs, the places of the defs -/
abbrev cfg (K : PySem.W.Frag) (tab : List Fd) (G : Nat → Addr) (cl : List Cl) : Cfg := ⟨K, fun f => tab[f]?, G, exR K G cl⟩
/-- a def, at a level -/
structure Lv (tab : List Fd) (P : Program) (w : World) (K : PySem.W.Frag) (mg : Str → Option Value) (base : Heap) (G : Nat → Addr) (cl : List Cl) (n f : Nat) (fd : Fd) : Prop where
  at_ : mg fd.name = some (.ref (G f))
  kp : PySem.W.keepIn K (.ref (G f)) = true
  ok : ∃ fdat, FnOk P w K mg base (L2.CX P w) (n + 2) (G f) fdat fd.ps (spF (cfg K tab G cl) (run (fun f => tab[f]?) n) f fd.ps.length) ∧ Binds K fdat fd.ps [] ∧ (∀ (s : Shared) (us : List Value), us.length = fd.ps.length → BindsTo s fdat ⟨us, []⟩ (fd.ps.zip us)) ∧
    ∀ (np : Nat) (ks : List Str) (perm : List Nat), kwOk fd.ps np ks perm = true → ∀ (us ws zs : List Value), us.length = np → ws.length = ks.length → perm.mapM (fun j => (us ++ ws)[j]?) = some zs →
      ∀ s : Shared, K.In s.heap → BindsTo s fdat ⟨us, ks.zip ws⟩ (fd.ps.zip zs)
  lk : ∀ fdat, (∃ oc od osl, K.lookup (G f) = some ⟨oc, od, .func fdat, osl⟩) → FnOk P w K mg base (L2.CX P w) (n + 2) (G f) fdat fd.ps (spF (cfg K tab G cl) (run (fun f => tab[f]?) n) f fd.ps.length) ∧ ∀ (s : Shared) (us : List Value), us.length = fd.ps.length → BindsTo s fdat ⟨us, []⟩ (fd.ps.zip us)
theorem lk_of {x qual : Str} {params : Arguments} {body : List Stmt} {scope : Scope} {f : Addr} {fdat fdat' : FuncData} (F : FunD K x qual params body scope [] [] f fdat) (h : ∃ oc od osl, K.lookup f = some ⟨oc, od, .func fdat', osl⟩) : fdat' = fdat := by
  obtain ⟨oc, od, dV, kV, doc, pm, an, cdv, ct, osl, rfl, lk, _⟩ := F.ex
  obtain ⟨oc', od', osl', lk'⟩ := h
  rw [lk] at lk'
  injection lk' with e
  injection e with _ _ e _
  injection e with e
  exact e.symm
theorem run_len {n f : Nat} {fd : Fd} (e : tab[f]? = some fd) : ∀ ds T, ds.length ≠ fd.ps.length → run (fun f => tab[f]?) n f ds T = .no := fun ds T h => by
  cases n with
  | zero => rfl
  | succ n =>
    rw [run, e]
    simp only
    unfold runF
    rw [if_neg h]
theorem lv_all {cl : List Cl} (ecl : bn.cl = cl) (eer : bn.er = none) (hcl : ∀ n j cd, cl[j]? = some cd → ClsAt G (n + 2) cl j cd P w K mg base) (htab : tab.length ≤ 4096) (free : ∀ x, x ∈ bn.l → mg x = none) (ds : ∀ f fd, tab[f]? = some fd → mg fd.name = some (.ref (G f)) ∧ ∃ st fdat, FunD K fd.name fd.name (defArgs st) (defBody st) (defScope st) [] [] (G f) fdat ∧ ckD tab bn fd st = true) : ∀ n f fd, tab[f]? = some fd → Lv tab P w K mg base G cl n f fd := by
  intro n
  induction n with
  | zero =>
    intro f fd ef
    obtain ⟨h1, st, fdat, F, hc⟩ := ds f fd ef
    unfold ckD at hc
    rw [Bool.and_eq_true, Bool.and_eq_true] at hc
    have S := scB_iff hc.1.2
    have nd : fd.ps.Nodup := by
      have := S.pre
      rw [← this]
      exact S.nd.sublist (List.take_sublist _ _)
    have bs := binds_all F hc.1.1 nd
    have ok : FnOk P w K mg base (L2.CX P w) (0 + 2) (G f) fdat fd.ps (spF (cfg K tab G cl) (run (fun f => tab[f]?) 0) f fd.ps.length) := ⟨fun vs H Q E ⟨ds, ρ, T, t, s, hl, _⟩ => hl, fun A outer s H args us vs Q E _ _ _ _ ⟨ds, ρ, T, t, s', hl, q⟩ => False.elim q⟩
    exact ⟨h1, F.kp, ⟨fdat, ok, bs⟩, fun fdat' e => by rw [lk_of F e]; exact ⟨ok, bs.2.1⟩⟩
  | succ n ih =>
    intro f fd ef
    obtain ⟨h1, st, fdat, F, hc⟩ := ds f fd ef
    unfold ckD at hc
    rw [Bool.and_eq_true, Bool.and_eq_true] at hc
    have S := scB_iff hc.1.2
    have nd : fd.ps.Nodup := by
      have := S.pre
      rw [← this]
      exact S.nd.sublist (List.take_sublist _ _)
    have bs := binds_all F hc.1.1 nd
    suffices ok : FnOk P w K mg base (L2.CX P w) (n + 1 + 2) (G f) fdat fd.ps (spF (cfg K tab G cl) (run (fun f => tab[f]?) (n + 1)) f fd.ps.length) from ⟨h1, F.kp, ⟨fdat, ok, bs⟩, fun fdat' e => by rw [lk_of F e]; exact ⟨ok, bs.2.1⟩⟩
    refine F.ok S (fun vs H Q E ⟨ds, ρ, T, t, s, hl, _⟩ => hl) (fun cdv A outer s H vs Q E hr hsp => ?_)
    obtain ⟨dl, ρ, T, t, sto, hl, q⟩ := hsp
    have hcx : Cxt (cfg K tab G cl) (run (fun f => tab[f]?) n) (n + 2) bn (fun cls d _ H' => E cls d H') (cxOf (L2.CX P w) P w K mg base fd.N fd.name (defScope st) (G f) cdv A outer s H E) :=
      ⟨rfl, S.nd, fun _ => hr, hr.units, fun _ => rfl, by omega, takes_of rfl rfl rfl rfl, free, fun f' fd' e' => let z := ih f' fd' e'; let ⟨fdat', z1, z2, _, z3⟩ := z.ok; ⟨z.at_, z.kp, ⟨fdat', z1, z2, z3⟩, run_len e'⟩, fun j cd e => by
        rw [ecl] at e ⊢
        exact hcl n j cd e, fun nm e => (by rw [eer] at e; cases e), fun _ _ _ _ _ _ _ => by rw [ecl]⟩
    have hxs : CXS (cfg K tab G cl) (run (fun f => tab[f]?) n) (n + 2) bn fd.N (fun cls d _ H' => E cls d H') (defScope st) (cxOf (L2.CX P w) P w K mg base fd.N fd.name (defScope st) (G f) cdv A outer s H E) :=
      ⟨⟨hcx, rfl, rfl⟩, S.kind, fun _ => passes_of rfl, rfl, rfl, fun x hx => ⟨locB_iff hx, .inl rfl⟩⟩
    refine ⟨_, bOk (fun _ => rfl) fd.body hxs hc.2, ?_⟩
    have hN : fd.ps.length ≤ fd.N.length := by
      have := congrArg List.length S.pre
      rw [List.length_take] at this
      omega
    have ld := t.len
    have o : OkC (cfg K tab G cl) H ρ H ρ (L2.start fd.N vs) (En.start fd.N.length dl) T := by
      refine ⟨⟨sto, fun _ _ h _ => h, fun _ _ h => h, fun _ m => .inl m, sto.lists⟩, ?_, fun i => ?_, fun i j xs ys a _ e1 => ?_⟩
      · unfold En.start L2.start
        simp only [List.length_append, List.length_map, List.length_replicate]
        omega
      · rw [startE_get]
        cases e : dl[i]? with
        | none => trivial
        | some d =>
          obtain ⟨v, ev, r⟩ := t.at e
          exact ⟨v, start_get ev, r⟩
      · rw [startE_get] at e1
        split at e1 <;> cases e1
    refine ⟨H, ρ, _, ρ, T, o, ?_⟩
    have ext : ∀ {H1 : Hp} {ρ1 : List Addr} {T1 : Sto}, HpOk K G H ρ H1 ρ1 T1 → Ext H ρ H1 ρ1 := fun h => ⟨h.keep, h.pre, h.new⟩
    rw [run, ef] at q
    simp only at q
    unfold runF at q
    rw [if_pos (by rw [← ld, hl])] at q
    cases e : exB (run (fun f => tab[f]?) n) fd.body (En.start fd.N.length dl) T with
    | nx η1 T1 =>
      rw [e] at q
      exact fun σ1 H1 ρ1 o1 _ => q .non H1 ρ1 o1.hp.sto (ext o1.hp) .non
    | rt d T1 =>
      rw [e] at q
      exact fun v H1 ρ1 o1 _ r => q v H1 ρ1 o1.sto (ext o1) r
    | ex cc pl T1 =>
      rw [e] at q
      exact fun cls d σ1 η1 H1 ρ1 o1 _ hx => q cls d H1 ρ1 o1.hp.sto (ext o1.hp) hx
    | bk η1 T1 =>
      rw [e] at q
      exact q.elim
    | ct η1 T1 =>
      rw [e] at q
      exact q.elim
    | no =>
      rw [e] at q
      exact q.elim
end
end Ev
namespace Ev
open PySem PySem.Spec PyProof.Rows L2 NdefX
/-! ### the classes' facts, read off the written part -/
def bAnd3 {a b c : Bool} (h : (a && b && c) = true) : a = true ∧ b = true ∧ c = true := by
  rw [Bool.and_eq_true, Bool.and_eq_true] at h
  exact ⟨h.1.1, h.1.2, h.2⟩
/-- the class's object -/
def clsO (K : PySem.W.Frag) (C : Addr) : Bool := match K.lookup C with
  | some ⟨.type t, _, .cls cd, sl⟩ => (match cd.mro, sl.toList with
    | .ref C' :: bm, [_, _, _, _, some (.builtin n), _] => decide (t = "type") && decide (C' = C) && decide (n = "ValueError.__new__") && !cd.hasDel && cd.hasDict && PySem.HandSPX.refsVE bm
    | _, _ => false)
  | _ => false
theorem clsO_ok {K : PySem.W.Frag} {C : Addr} (h : clsO K C = true) : ∃ nm q N bs bm sn sub ab col dd k0 k1 k2 k3 k5, K.lookup C = some (excClassObj nm q C N bs bm true sn sub ab col dd k0 k1 k2 k3 k5 "ValueError.__new__") ∧ PySem.HandSPX.refsVE bm = true := by
  unfold clsO at h
  split at h
  · rename_i t dd cd sl e
    split at h
    · rename_i C' bm k0 k1 k2 k3 n k5 em es
      simp only [Bool.and_eq_true, Bool.not_eq_true', decide_eq_true_eq] at h
      obtain ⟨⟨⟨⟨⟨h1, h2⟩, h3⟩, h4⟩, h5⟩, h6⟩ := h
      obtain ⟨nm, bs, mro, ns, qn, hd, sn, sb, ab, col, del⟩ := cd
      dsimp only at em h4 h5
      subst h1 h2 h3 em h4 h5
      obtain ⟨sl⟩ := sl
      dsimp only at es
      subst es
      exact ⟨_, _, _, _, bm, _, _, _, _, _, _, _, _, _, _, e, h6⟩
    · cases h
  · cases h
def eqB (a b : Option Bool) : Bool := decide (a = b)
/-- an own class, as one of errors -/
def oexB (K : PySem.W.Frag) (C : Addr) : Bool := clsO K C && decide (PySem.W.findIn K (.ref C) "__setattr__" = some (some (.builtin "object.__setattr__"))) && decide (PySem.W.subIn K (.ref C) (.type "BaseException") = some true) && decide (PySem.W.typeIn K (.ref C) = some (.type "type")) && PySem.W.keepIn K (.ref C)
theorem oexB_ok {K : PySem.W.Frag} {C : Addr} (h : oexB K C = true) : OexC K C := by
  unfold oexB at h
  simp only [Bool.and_eq_true, decide_eq_true_eq] at h
  exact ⟨clsO_ok h.1.1.1.1, h.1.1.1.2, h.1.1.2, h.1.2, h.2⟩
def iscB (K : PySem.W.Frag) (D : Addr) : Bool := (PySem.W.clsIn K D).isSome && decide (PySem.W.findIn K (.ref D) "__getattribute__" = some (some (.builtin "BaseException.__getattribute__"))) && decide (PySem.W.findIn K (.ref D) "__getattr__" = some none) && decide (PySem.W.subIn K (.ref D) (.type "BaseException") = some true) && decide (PySem.W.findIn K (.ref D) "__class__" = some (some (.builtin "object.__class__")))
  && decide (PySem.W.specialIn K (.builtin "object.__class__") "__get__" = some (some (.builtin "getset_descriptor.__get__"))) && decide (PySem.W.takesIn K (.builtin "object.__class__") = some true) && decide (PySem.W.mroIn K D (.type "object") = some true)
theorem iscB_ok {K : PySem.W.Frag} {D : Addr} (h : iscB K D = true) : XR.IsC K D := by
  unfold iscB at h
  simp only [Bool.and_eq_true, decide_eq_true_eq] at h
  obtain ⟨⟨⟨⟨⟨⟨⟨h1, h2⟩, h3⟩, h4⟩, h5⟩, h6⟩, h7⟩, h8⟩ := h
  exact ⟨h1, h2, h3, h4, h5, h6, h7, h8⟩
/-- which classes it is -/
def subB (K : PySem.W.Frag) (G : Nat → Addr) (cl : List Cl) (j : Nat) (cd : Cl) : Bool := (List.range cl.length).all fun i => match cl[i]? with
  | some ci => decide (PySem.W.kitOne K (.ref (G (5000 + j))) (clsV G i ci) = some (cd.sup.contains i)) && decide (PySem.W.exmOne K (.ref (G (5000 + j))) (clsV G i ci) = some (cd.sup.contains i))
  | none => true
theorem subB_ok {K : PySem.W.Frag} {G : Nat → Addr} {cl : List Cl} {j : Nat} {cd : Cl} (h : subB K G cl j cd = true) : ∀ i ci, cl[i]? = some ci → PySem.W.kitOne K (.ref (G (5000 + j))) (clsV G i ci) = some (cd.sup.contains i) ∧ PySem.W.exmOne K (.ref (G (5000 + j))) (clsV G i ci) = some (cd.sup.contains i) := fun i ci e => by
  have hl : i < cl.length := (List.getElem?_eq_some_iff.mp e).1
  have := List.all_eq_true.mp h i (List.mem_range.mpr hl)
  rw [e] at this
  simpa using this
def xfsB (K : PySem.W.Frag) (cl : List Cl) (C : Addr) : Bool := xfB K C && cl.all fun ci => match ci.fld with
  | some f => decide (PySem.W.findIn K (.ref C) f = some none)
  | none => true
theorem xfsB_ok {K : PySem.W.Frag} {cl : List Cl} {C : Addr} (h : xfsB K cl C = true) : XfC K C ∧ ∀ ci, ci ∈ cl → ∀ f, ci.fld = some f → PySem.W.findIn K (.ref C) f = some none := by
  unfold xfsB at h
  rw [Bool.and_eq_true] at h
  refine ⟨xfB_ok h.1, fun ci m f e => ?_⟩
  have := List.all_eq_true.mp h.2 ci m
  rw [e] at this
  exact of_decide_eq_true this
/-! ### the __init__s -/
def initA (K : PySem.W.Frag) (C : Addr) : Addr := He.ma K C "__init__"
abbrev FnI : Type := Option (Str × Str × Arguments × FuncBody × Scope × Addr × List Str × Value × Value × Option Addr × Addr)
def fnI (K : PySem.W.Frag) (C : Addr) : FnI := match K.lookup (initA K C) with
  | some ⟨_, _, .func fd, _⟩ => some (fd.name, fd.qualname, fd.params, fd.body, fd.scope, fd.globals, fd.closure.map (·.1), fd.defaults, fd.kwdefaults, fd.annotations, fd.builtins)
  | _ => none
def valI (qual : Str) (st : Stmt) : FnI := some ("__init__", qual, defArgs st, .stmts (defBody st), defScope st, mainGlobals, ["__class__"], .none, .none, none, builtinsNs)
/-- the rest of it: its code object, its cell -/
def initB (K : PySem.W.Frag) (C : Addr) (qual file : Str) : Bool := decide (PySem.W.findIn K (.ref C) "__init__" = some (some (.ref (initA K C)))) && decide (PySem.W.typeIn K (.ref (initA K C)) = some (.type "function")) && (match K.lookup (initA K C) with
  | some ⟨_, _, .func fd, _⟩ => PySem.W.codeIn K fd.code qual && (match fd.code with
    | .ref c => (match K.lookup c with
      | some ⟨_, _, .fields vs, _⟩ => (match (vs[2]? : Option Value) with
        | some (.str f _) => file == f
        | _ => false)
      | _ => false)
    | _ => false) && (match fd.closure with
    | [(_, c)] => (match K.lookup c with
      | some ⟨_, _, .cell (some (.ref C')), _⟩ => decide (C' = C)
      | _ => false)
    | _ => false)
  | _ => false) && decide (PySem.W.nsIn K cStatics "thirdparty.any" = some none) && decide (PySem.W.ks_superIn K C C "__init__" = some (some (.builtin "ValueError.__init__"))) && decide (PySem.W.subIn K (.ref C) (.type "ValueError") = some true) && decide (PySem.W.subIn K (.ref C) (.ref C) = some true)
end Ev
namespace Ev
open PySem PySem.Spec PyProof.Rows L2 NdefX
/-- an __init__'s body: super().__init__(), or super().__init__(x); self.f = x -/
def shape0 : List Stmt → Bool
  | [.Expr (.Call (.Attribute (.Call (.Name s _) [] [] _) i p2) [] [] p3) _] => sq s "super" && sq i "__init__" && (p2.endLine == p3.line)
  | _ => false
theorem shape0_iff {b : List Stmt} (h : shape0 b = true) : ∃ p0 p1 p2 p3 p4, b = [.Expr (.Call (.Attribute (.Call (.Name "super" p0) [] [] p1) "__init__" p2) [] [] p3) p4] ∧ (p2.endLine == p3.line) = true := by
  unfold shape0 at h
  split at h
  · rw [Bool.and_eq_true, Bool.and_eq_true] at h
    have e1 := sq_iff h.1.1
    have e2 := sq_iff h.1.2
    subst e1 e2
    exact ⟨_, _, _, _, _, rfl, h.2⟩
  · cases h
def shape1 (sf x f : Str) : List Stmt → Bool
  | [.Expr (.Call (.Attribute (.Call (.Name s _) [] [] _) i p2) [.Name y _] [] p3) _, .Assign [.Attribute (.Name z _) g _] (.Name y2 _) _] => sq s "super" && sq i "__init__" && (p2.endLine == p3.line) && sq y x && sq z sf && sq g f && sq y2 x
  | _ => false
theorem shape1_iff {sf x f : Str} {b : List Stmt} (h : shape1 sf x f b = true) : ∃ p0 p1 p2 p3 p4 p5 p6 p7 p8 px, b = [.Expr (.Call (.Attribute (.Call (.Name "super" p0) [] [] p1) "__init__" p2) [.Name x px] [] p3) p4, .Assign [.Attribute (.Name sf p5) f p6] (.Name x p7) p8] ∧ (p2.endLine == p3.line) = true := by
  unfold shape1 at h
  split at h
  · simp only [Bool.and_eq_true] at h
    obtain ⟨⟨⟨⟨⟨⟨h1, h2⟩, h3⟩, h4⟩, h5⟩, h6⟩, h7⟩ := h
    have e1 := sq_iff h1
    have e2 := sq_iff h2
    have e4 := sq_iff h4
    have e5 := sq_iff h5
    have e6 := sq_iff h6
    have e7 := sq_iff h7
    subst e1 e2 e4 e5 e6 e7
    exact ⟨_, _, _, _, _, _, _, _, _, _, rfl, h3⟩
  · cases h
/-- its scope and its parameters -/
def initS (ps : List Str) (st : Stmt) : Bool := argsB (defArgs st) ps && nscB (ps ++ [("__class__" : Str)]) ps ["__class__"] (defScope st) && glB (defScope st) "super" && (ps.all okNm)
/-- what the program and the written part say of an __init__ -/
theorem init_of {P : Program} {K : PySem.W.Frag} {mg : Str → Option Value} {C : Addr} {qual sf : Str} {ps : List Str} {st : Stmt} (h1 : oexB K C = true) (h2 : fnI K C = valI qual st) (h3 : initB K C qual P.main.file = true) (h4 : initS ps st = true) (h5 : ps[0]? = some sf) (top : (P.main.scope.names.lookup ("super" : Str)).isSome = false) (hm : mg "super" = none) :
    ∃ (F : NF) (doc pm ctv : Value), F.body = defBody st ∧ XR.InitC P K mg C (initA K C) F sf ps ∧ (∃ oc od sl, K.lookup (initA K C) = some ⟨oc, od, .func (F.fd doc pm ctv), sl⟩) ∧ PySem.W.findIn K (.ref C) "__init__" = some (some (.ref (initA K C))) ∧ PySem.W.typeIn K (.ref (initA K C)) = some (.type "function") ∧ Binds K (F.fd doc pm ctv) ps [] := by
  unfold initB at h3
  unfold initS at h4
  simp only [Bool.and_eq_true, decide_eq_true_eq] at h3 h4
  obtain ⟨⟨⟨⟨⟨⟨b1, b2⟩, b3⟩, b4⟩, b5⟩, b6⟩, b7⟩ := h3
  obtain ⟨⟨⟨a1, a2⟩, a3⟩, a4⟩ := h4
  unfold fnI valI at h2
  cases e : K.lookup (initA K C) with
  | none =>
    rw [e] at h2
    cases h2
  | some o =>
    obtain ⟨oc, od, dt, sl⟩ := o
    rw [e] at h2 b3
    cases dt with
    | func fd =>
      obtain ⟨n1, n2, n3, n4, n5, n6, n7, n8, n9, n10, n11, n12, n13, n14, n15⟩ := fd
      simp only [Option.some.injEq, Prod.mk.injEq] at h2
      obtain ⟨g1, g2, g3, g4, g5, g6, g7, g8, g9, g10, g11⟩ := h2
      simp only [Bool.and_eq_true] at b3
      obtain ⟨⟨c1, c2⟩, c3⟩ := b3
      subst g1 g2 g3 g4 g5 g6 g8 g9 g10 g11
      cases n13 with
      | ref c =>
        dsimp only at c1 c2 c3
        cases e2 : K.lookup c with
        | none =>
          rw [e2] at c2
          cases c2
        | some o2 =>
          obtain ⟨oc2, od2, dt2, sl2⟩ := o2
          rw [e2] at c2
          cases dt2 with
          | fields vs =>
            dsimp only at c2
            cases e3 : (vs[2]? : Option Value) with
            | none =>
              rw [e3] at c2
              cases c2
            | some v3 =>
              rw [e3] at c2
              cases v3 with
              | str f3 t3 =>
                cases n7 with
                | nil => cases g7
                | cons y n7 =>
                  obtain ⟨y1, y2⟩ := y
                  cases n7 with
                  | cons _ _ => cases g7
                  | nil =>
                    have ey : y1 = ("__class__" : Str) := by
                      simp only [List.map_cons, List.map_nil, List.cons.injEq, and_true] at g7
                      exact g7
                    subst ey
                    dsimp only at c3
                    cases e4 : K.lookup y2 with
                    | none =>
                      rw [e4] at c3
                      cases c3
                    | some o4 =>
                      obtain ⟨oc4, od4, dt4, sl4⟩ := o4
                      rw [e4] at c3
                      cases dt4 with
                      | cell v4 =>
                        cases v4 with
                        | none => cases c3
                        | some v4 =>
                          cases v4 with
                          | ref C' =>
                            have ec : C' = C := of_decide_eq_true c3
                            subst ec
                            have S := nscope_by a2
                            obtain ⟨as, ep, ea⟩ := argsB_iff a1
                            have nd : ps.Nodup := by
                              have := S.pre
                              have h6 := S.nd.sublist (List.take_sublist (ps.length + 1) _)
                              rw [show ps.length + 1 = ps.length + [("__class__" : Str)].length from rfl, this] at h6
                              exact (List.nodup_append.mp h6).1
                            have bind : ∀ (doc pm ctv : Value) (us : List Value), us.length = ps.length → bindArgs (PySem.W.fnX "__init__" n2 (defArgs st) (defBody st) (defScope st) [(("__class__" : Str), y2)] .none .none doc pm none (.ref c) ctv) ⟨us, []⟩ = pure (ps.zip us) := fun doc pm ctv us hu =>
                              bind_gen (fd := PySem.W.fnX "__init__" n2 (defArgs st) (defBody st) (defScope st) [(("__class__" : Str), y2)] .none .none doc pm none (.ref c) ctv) (ks := []) (ws := []) (us := us) (zs := us) ep rfl ea (kwOk_self nd) hu rfl (by rw [List.append_nil, ← hu]; exact range_all us)
                            have par : ∃ ar, ((defArgs st).posonlyargs ++ (defArgs st).args).head? = some ar ∧ ar.arg = sf := by
                              rw [ep]
                              cases as with
                              | nil =>
                                rw [← ea] at h5
                                cases h5
                              | cons a0 as =>
                                refine ⟨a0, rfl, ?_⟩
                                rw [← ea] at h5
                                exact Option.some.inj h5
                            have gl : (defScope st).names.lookup ("super" : Str) = some .globalImplicit := by
                              unfold glB at a3
                              rw [lk_eq] at a3
                              split at a3
                              · assumption
                              · cases a3
                            refine ⟨⟨"__init__", n2, defArgs st, defBody st, defScope st, [(("__class__" : Str), y2)], c⟩, n10, n11, n14, rfl, ?_, ⟨_, _, _, rfl⟩, b1, b2, Binds.all fun us hu => bind _ _ _ us hu⟩
                            refine ⟨oexB_ok h1, ⟨_, _, _, _, _, _, e⟩, c1, ⟨_, vs, f3, t3, e2, rfl, e3, c2⟩, top, ⟨y2, _, rfl, e4, rfl⟩, par, b4, b5, b6, b7, S, gl, hm, bind, h5, ?_⟩
                            intro z
                            have hc := oexB_ok h1
                            obtain ⟨nm, q, N, bs, bm, sn, sub, ab, col, dd, k0, k1, k2, k3, k5, hC, _⟩ := hc.cls
                            rw [z, e] at hC
                            cases hC
                          | _ => cases c3
                      | _ => cases c3
              | _ => cases c2
          | _ => cases c2
      | _ => cases c2
    | _ => cases h2
end Ev
namespace Ev
open PySem PySem.Spec PyProof.Rows L2 NdefX
/-- the places: defs, classes from 5000 on -/
def adr (K : PySem.W.Frag) (tab : List Fd) (cl : List Cl) (f : Nat) : Addr := match tab[f]? with
  | some fd => He.ga K fd.name
  | none => (match cl[f - 5000]? with
    | some cd => He.ga K cd.name
    | none => 0)
theorem adr_cls {K : PySem.W.Frag} {tab : List Fd} {cl : List Cl} {j : Nat} {cd : Cl} (ht : tab.length ≤ 4096) (e : cl[j]? = some cd) : adr K tab cl (5000 + j) = He.ga K cd.name := by
  unfold adr
  rw [List.getElem?_eq_none (by omega), show 5000 + j - 5000 = j by omega, e]
/-- an __init__: its class's name, qualified name, parameters, its def -/
structure In where
  cn : Str
  qual : Str
  ps : List Str
  st : Stmt
/-- what the text says of a class -/
def clT (cl : List Cl) (il : List In) (bl : List Str) (cd : Cl) : Bool := okNm cd.name && (match cd.bt with
  | some n => mem cd.name bl && decide (bootBuiltins cd.name = some (.type n)) && !cd.ini
  | none => if cd.ini = true then il.any fun q => sq q.cn cd.name && initS q.ps q.st && (match cd.fld, q.ps with
      | none, [sf] => shape0 (defBody q.st)
      | some f, [sf, x] => shape1 sf x f (defBody q.st)
      | _, _ => false) else true)
/-- what the written part says of it -/
def clK (K : PySem.W.Frag) (tab : List Fd) (cl : List Cl) (il : List In) (file : Str) : Bool := ((List.range cl.length).all fun j => match cl[j]? with
  | some cd => (match cd.bt with
    | some _ => true
    | none => iscB K (He.ga K cd.name) && subB K (adr K tab cl) cl j cd && xfsB K cl (He.ga K cd.name))
  | none => true) && il.all fun q => oexB K (He.ga K q.cn) && initB K (He.ga K q.cn) q.qual file
structure SaysC (fa : List He.Fa) (fn : List He.DefD) (il : List In) (ex : PySem.W.Frag → Bool) (K : PySem.W.Frag) : Prop where
  d : He.SaysD fa fn K
  i : il.map (fun q : In => fnI K (He.ga K q.cn)) = il.map (fun q : In => valI q.qual q.st)
  x : ex K = true
abbrev AlC : Type := He.AlD × List FnI × Bool
def fragC (n : Nat) (g : Addr → Option Obj) : PySem.W.Frag := He.frG g (cStatics :: He.asD g n)
def obsC (n : Nat) (fa : List He.Fa) (fn : List He.DefD) (il : List In) (ex : PySem.W.Frag → Bool) (g : Addr → Option Obj) : AlC := (He.obsD fa fn (fragC n g), il.map (fun q : In => fnI (fragC n g) (He.ga (fragC n g) q.cn)), ex (fragC n g))
def hookC (n : Nat) (fa : List He.Fa) (fn : List He.DefD) (il : List In) (ex : PySem.W.Frag → Bool) : PySem.W.Hook where
  α := AlC
  obs := fun s => obsC n fa fn il ex s.heap.get?
  val := fun _ => (He.valD fn, il.map (fun q : In => valI q.qual q.st), true)
  says := fun _ h => ∃ K : PySem.W.Frag, K.In h ∧ SaysC fa fn il ex K
  of := fun _ s e => ⟨fragC n s.heap.get?, He.frG_in, (congrArg (fun z : AlC => z.1) e : He.obsD fa fn (fragC n s.heap.get?) = He.valD fn), (congrArg (fun z : AlC => z.2.1) e : il.map (fun q : In => fnI (fragC n s.heap.get?) (He.ga (fragC n s.heap.get?) q.cn)) = il.map (fun q : In => valI q.qual q.st)), (congrArg (fun z : AlC => z.2.2) e : ex (fragC n s.heap.get?) = true)⟩
  keeps := fun _ _ _ ⟨K, hK, c⟩ k => ⟨K, PySem.W.Frag.In.keeps hK k, c⟩
theorem obsC_eq {n : Nat} {fa : List He.Fa} {fn : List He.DefD} {il : List In} {ex : PySem.W.Frag → Bool} {g : Addr → Option Obj} {s : Shared} (h : ∀ a, g a = s.heap.get? a) : obsC n fa fn il ex g = (hookC n fa fn il ex).obs s := by
  have e : g = s.heap.get? := funext h
  rw [e] <;> rfl
/-- a class's facts -/
theorem cls_says {tab : List Fd} {cl : List Cl} {il : List In} {bl : List Str} {P : Program} {w : World} {K : PySem.W.Frag} {mg : Str → Option Value} {base : Heap} (ht : tab.length ≤ 4096) (top : (P.main.scope.names.lookup ("super" : Str)).isSome = false) (hm : mg "super" = none)
    (free : ∀ x, x ∈ bl → mg x = none) (glo : ∀ (j : Nat) (cd : Cl), cl[j]? = some cd → cd.bt = none → mg cd.name = some (.ref (He.ga K cd.name))) (hT : (cl.all fun cd => clT cl il bl cd) = true) (hK : clK K tab cl il P.main.file = true)
    (hI : il.map (fun q : In => fnI K (He.ga K q.cn)) = il.map (fun q : In => valI q.qual q.st)) : ∀ n j cd, cl[j]? = some cd → ClsAt (adr K tab cl) (n + 2) cl j cd P w K mg base := by
  intro n j cd e
  have t := List.all_eq_true.mp hT cd (List.mem_of_getElem? e)
  unfold clT at t
  rw [Bool.and_eq_true] at t
  obtain ⟨t1, t2⟩ := t
  unfold clK at hK
  rw [Bool.and_eq_true] at hK
  obtain ⟨k1, k2⟩ := hK
  have hl : j < cl.length := (List.getElem?_eq_some_iff.mp e).1
  have k1j := List.all_eq_true.mp k1 j (List.mem_range.mpr hl)
  rw [e] at k1j
  dsimp only at k1j
  have ea := adr_cls (K := K) (tab := tab) ht e
  obtain ⟨o1, _, o3⟩ := okNm_iff t1
  have own : cd.bt = none → (iscB K (He.ga K cd.name) = true ∧ subB K (adr K tab cl) cl j cd = true) ∧ xfsB K cl (He.ga K cd.name) = true := fun eb => by
    rw [eb] at k1j
    simpa only [Bool.and_eq_true] using k1j
  have inn : cd.ini = true → cd.bt = none ∧ ∃ q, q ∈ il ∧ q.cn = cd.name ∧ initS q.ps q.st = true ∧ (match cd.fld, q.ps with
      | none, [sf] => shape0 (defBody q.st)
      | some f, [sf, x] => shape1 sf x f (defBody q.st)
      | _, _ => false) = true := fun ei => by
    cases eb : cd.bt with
    | some m =>
      rw [eb] at t2
      simp [ei] at t2
    | none =>
      rw [eb] at t2
      dsimp only at t2
      rw [if_pos ei] at t2
      obtain ⟨q, m, z⟩ := List.any_eq_true.mp t2
      rw [Bool.and_eq_true, Bool.and_eq_true] at z
      exact ⟨rfl, q, m, sq_iff z.1.1, z.1.2, z.2⟩
  have inK : ∀ q, q ∈ il → oexB K (He.ga K q.cn) = true ∧ initB K (He.ga K q.cn) q.qual P.main.file = true ∧ fnI K (He.ga K q.cn) = valI q.qual q.st := fun q m => by
    have z := List.all_eq_true.mp k2 q m
    rw [Bool.and_eq_true] at z
    refine ⟨z.1, z.2, ?_⟩
    obtain ⟨i, hi, ei⟩ := List.mem_iff_getElem.mp m
    have := congrArg (fun l => l[i]?) hI
    simp only [List.getElem?_map, List.getElem?_eq_getElem hi, ei, Option.map_some, Option.some.injEq] at this
    exact this
  refine ⟨fun eb => ?_, fun m eb => ?_, ⟨o1, o3⟩, fun eb => subB_ok (own eb).1.2, fun eb => ?_, fun eb => ?_, fun ei ef => ?_, fun ei f ef => ?_⟩
  · rw [ea]
    exact glo j cd e eb
  · rw [eb] at t2
    simp only [Bool.and_eq_true, decide_eq_true_eq] at t2
    exact ⟨free _ (mem_iff t2.1.1), t2.1.2⟩
  · rw [ea]
    exact iscB_ok (own eb).1.1
  · rw [ea]
    exact xfsB_ok (own eb).2
  · obtain ⟨eb, q, m, en, is, z⟩ := inn ei
    obtain ⟨x1, x2, x3⟩ := inK q m
    rw [ef] at z
    split at z
    · rename_i sf _ eps
      rw [eps] at is
      obtain ⟨F, doc, pm, ctv, f1, f2, f3, f4, f5, f6⟩ := init_of (mg := mg) (sf := sf) x1 x3 x2 is rfl top hm
      obtain ⟨p0, p1, p2, p3, p4, g1, g2⟩ := shape0_iff z
      rw [ea, ← en]
      exact ⟨_, _, sf, oexB_ok x1, f4, f5, XR.fn0 f2 (f1.trans g1) g2 f3, f6⟩
    · rename_i f0 sf0 x0 hf0 eps
      exact absurd hf0 (fun z => nomatch z)
    · cases z
  · obtain ⟨eb, q, m, en, is, z⟩ := inn ei
    obtain ⟨x1, x2, x3⟩ := inK q m
    rw [ef] at z
    split at z
    · rename_i sf0 hf0 eps
      exact absurd hf0 (fun z => nomatch z)
    · rename_i f' sf x hf0 eps
      cases hf0
      rw [eps] at is
      have is2 := is
      unfold initS at is2
      simp only [Bool.and_eq_true, List.all_eq_true] at is2
      obtain ⟨n1, n2, _⟩ := okNm_iff (is2.2 sf (by simp))
      obtain ⟨n3, n4, _⟩ := okNm_iff (is2.2 x (by simp))
      obtain ⟨F, doc, pm, ctv, f1, f2, f3, f4, f5, f6⟩ := init_of (mg := mg) (sf := sf) x1 x3 x2 is rfl top hm
      obtain ⟨p0, p1, p2, p3, p4, p5, p6, p7, p8, px, g1, g2⟩ := shape1_iff z
      have hno := (xfsB_ok (own eb).2).2 cd (List.mem_of_getElem? e) f ef
      rw [ea, ← en]
      rw [← en] at hno
      exact ⟨_, _, sf, x, oexB_ok x1, f4, f5, XR.fn1 f2 (f1.trans g1) g2 hno n3 n4 n1 n2 f3, f6⟩
    · cases z
end Ev
namespace Ev
open PySem PySem.Spec PyProof.Rows L2 NdefX
/-! ### the head's facts -/
def mkDf (fd : Fd) (st : Stmt) : He.DefD := ⟨(fd.name, none), fd.name, fd.name, defArgs st, defBody st, defScope st, [], []⟩
def fnL (tab : List Fd) (tops : List Stmt) : List He.DefD := List.zipWith mkDf tab tops
def ownL' (cl : List Cl) : List Cl := cl.filter isOwn
def faL (tab : List Fd) (bn : Bn) : List He.Fa := tab.map (fun fd => .glo fd.name) ++ (bn.l.map .free ++ (ownL' bn.cl).map fun cd => .glo cd.name)
/-- what the text says of the classes -/
def clA (tab : List Fd) (bn : Bn) (il : List In) : Bool := Nat.ble tab.length 4096 && mem "super" bn.l && cold bn && bn.cl.all fun cd => clT bn.cl il bn.l cd
def ckAll (tab : List Fd) (bn : Bn) (tops : List Stmt) : Bool := Nat.beq tops.length tab.length && (tab.zip tops).all fun p => ckD tab bn p.1 p.2
theorem lv_says {tab : List Fd} {bn : Bn} {tops : List Stmt} {il : List In} {P : Program} {w : World} {K : PySem.W.Frag} {mg : Str → Option Value} {base h : Heap} (KX : K.In h) (hG : h.Ns mainGlobals mg) (c : SaysC (faL tab bn) (fnL tab tops) il (fun K => clK K tab bn.cl il P.main.file) K) (hc : ckAll tab bn tops = true) (ha : clA tab bn il = true) (top : (P.main.scope.names.lookup ("super" : Str)).isSome = false) :
    ∀ n f fd, tab[f]? = some fd → Lv tab P w K mg base (adr K tab bn.cl) bn.cl n f fd := by
  unfold ckAll at hc
  rw [Bool.and_eq_true] at hc
  have hl := Nat.eq_of_beq_eq_true hc.1
  unfold clA at ha
  rw [Bool.and_eq_true, Bool.and_eq_true, Bool.and_eq_true] at ha
  obtain ⟨⟨⟨a1, a2⟩, a3⟩, a4⟩ := ha
  have ht := Nat.le_of_ble_eq_true a1
  have free : ∀ x, x ∈ bn.l → mg x = none := fun x m => He.free_ok KX hG (c.d.facts (f := .free x) (List.mem_append_right _ (List.mem_append_left _ (List.mem_map_of_mem m))))
  have glo : ∀ (j : Nat) (cd : Cl), bn.cl[j]? = some cd → cd.bt = none → mg cd.name = some (.ref (He.ga K cd.name)) := fun j cd e eb => He.glo_ok KX hG (c.d.facts (f := .glo cd.name) (List.mem_append_right _ (List.mem_append_right _ (List.mem_map.mpr ⟨cd, List.mem_filter.mpr ⟨List.mem_of_getElem? e, by unfold isOwn; rw [eb]⟩, rfl⟩))))
  refine lv_all (bn := bn) rfl (cold_iff a3) (cls_says ht top (free _ (mem_iff a2)) free glo a4 c.x c.i) ht free fun f fd ef => ?_
  have hf : f < tab.length := (List.getElem?_eq_some_iff.mp ef).1
  have e1 : adr K tab bn.cl f = He.ga K fd.name := by
    unfold adr
    rw [ef]
  have es : tops[f]? = some tops[f] := List.getElem?_eq_getElem (by omega)
  refine ⟨?_, tops[f], ?_⟩
  · rw [e1]
    exact He.glo_ok KX hG (c.d.facts (f := .glo fd.name) (List.mem_append_left _ (List.mem_map.mpr ⟨fd, List.mem_of_getElem? ef, rfl⟩)))
  · obtain ⟨fdat, F⟩ := c.d.def_ f (d := mkDf fd tops[f]) (by unfold fnL; rw [List.getElem?_zipWith, ef, es])
    refine ⟨fdat, ?_, ?_⟩
    · rw [e1]
      exact F
    · refine List.all_eq_true.mp hc.2 (fd, tops[f]) (List.mem_of_getElem? (i := f) ?_)
      exact List.getElem?_zip_eq_some.mpr ⟨ef, es⟩
/-- the law's promise -/
theorem law_says {tab : List Fd} {cl : List Cl} {K : PySem.W.Frag} {G : Nat → Addr} {n li : Nat} {H : Hp} {a : Addr} {ns : List Int} {T1 : Sto} (hO : Only H) (hS : SqL K H a (ns.map V.int)) (hr : run (fun f => tab[f]?) n li [.ro (ns.map .int)] [] = .ok (.bl true) T1) :
    spF (cfg K tab G cl) (run (fun f => tab[f]?) n) li 1 [.ref a] H (fun v _ => v = .bl true) fun _ _ _ => False := by
  have hq : SqLf K H a (ns.map V.int) := by
    rcases hS with (h | h) | h
    · rcases hO a with z | ⟨o, xs, z⟩
      · rw [h] at z
        cases z
      · rw [h] at z
        cases z
    · exact .inl h
    · exact .inr h
  have rs : ∀ ns : List Int, Reps K G H [] (ns.map V.int) (ns.map D.int) := by
    intro ns
    induction ns with
    | nil => exact .nil
    | cons i ns ih => exact .cons (.int i) ih
  refine ⟨[.ro (ns.map .int)], [], [], .cons (.ro hq (rs ns)) .nil, ⟨rfl, List.nodup_nil, fun n a xs e => by simp at e⟩, rfl, ?_⟩
  rw [hr]
  intro v H1 ρ1 _ _ r
  cases r
  rfl
theorem cx_none {P : Program} {w : World} : ∀ (H : Hp) (s : Shared) (e : Value) (s' : Shared), L2.CX P w [] H s (fun _ _ _ => False) e s' → False := fun H s e s' ⟨_, _, _, _, _, _, _, _, _, _, _, _, z⟩ => z
end Ev
namespace Ev
open PySem PySem.Spec PyProof.Rows L2
/-- whatever the world -/
def CXw (P : Program) : CXT := fun outer H s E u s' => ∃ w, L2.CX P w outer H s E u s'
theorem cxw_none {P : Program} : ∀ (H : Hp) (s : Shared) (e : Value) (s' : Shared), CXw P [] H s (fun _ _ _ => False) e s' → False := fun H s e s' ⟨w, h⟩ => cx_none H s e s' h
theorem FnOk.wk {P : Program} {w : World} {K : PySem.W.Frag} {mg : Str → Option Value} {base : Heap} {k : Nat} {f : Addr} {fd : FuncData} {ps : List Str} {sp : Sp} (F : FnOk P w K mg base (L2.CX P w) k f fd ps sp) : FnOk P w K mg base (CXw P) k f fd ps sp :=
  ⟨F.len, fun A outer s H args us vs Q E hr he hb hv hs => codeAny_mono (F.run A outer s H args us vs Q E hr he hb hv hs) fun r s' h => by
    cases r with
    | error e => exact ⟨w, h⟩
    | ok fl => cases fl <;> exact h⟩
/-- the law's promise to the head -/
theorem law_ok {tab : List Fd} {bn : Bn} {tops : List Stmt} {il : List In} {P : Program} {n li : Nat} {fd : Fd} (hc : ckAll tab bn tops = true) (ef : tab[li]? = some fd) (hps : fd.ps = [("script" : Str)]) (main : ∀ ns : List Int, ns.length ≤ 63 → ∃ T1, run (fun f => tab[f]?) n li [.ro (ns.map .int)] [] = .ok (.bl true) T1)
    {w : World} {mg : Str → Option Value} {fa : Addr} {h : Heap} {K : PySem.W.Frag} (KX : K.In h) (hG : h.Ns mainGlobals mg) (c : SaysC (faL tab bn) (fnL tab tops) il (fun K => clK K tab bn.cl il P.main.file) K) (ha : clA tab bn il = true) (top : (P.main.scope.names.lookup ("super" : Str)).isSome = false) (hmg : mg fd.name = some (.ref fa)) :
    ∃ (K : PySem.W.Frag) (fdat : FuncData) (sp : Sp), K.In h ∧ (∀ (s : Shared) (u : Value), BindsTo s fdat ⟨[u], []⟩ [("script", u)]) ∧
      (∀ (H : Hp) (a : Addr) (ns : List Int), ns.length ≤ 63 → Only H → SqL K H a (ns.map V.int) → sp [.ref a] H (fun v _ => v = .bl true) fun _ _ _ => False) ∧
      ∀ base : Heap, K.In base → base.Ns mainGlobals mg → FnOk P w K mg base (CXw P) (n + 2) fa fdat ["script"] sp := by
  have lv := fun base => lv_says (P := P) (w := w) (base := base) KX hG c hc ha top n li fd ef
  have at0 := (lv h).at_
  rw [hmg] at at0
  have ea : fa = adr K tab bn.cl li := by
    cases at0
    rfl
  subst ea
  unfold ckAll at hc
  rw [Bool.and_eq_true] at hc
  have hl := Nat.eq_of_beq_eq_true hc.1
  have hli : li < tab.length := (List.getElem?_eq_some_iff.mp ef).1
  have e1 : adr K tab bn.cl li = He.ga K fd.name := by
    unfold adr
    rw [ef]
  obtain ⟨fdat, F⟩ := c.d.def_ li (d := mkDf fd tops[li]) (by unfold fnL; rw [List.getElem?_zipWith, ef, List.getElem?_eq_getElem (by omega)])
  have lk : ∃ oc od osl, K.lookup (adr K tab bn.cl li) = some ⟨oc, od, .func fdat, osl⟩ := by
    rw [e1]
    obtain ⟨oc, od, dV, kV, doc, pm, an, cdv, ct, osl, e, lk, _⟩ := F.ex
    subst e
    exact ⟨oc, od, osl, lk⟩
  refine ⟨K, fdat, spF (cfg K tab (adr K tab bn.cl) bn.cl) (run (fun f => tab[f]?) n) li 1, KX, fun s u => ?_, fun H a ns hn hO hS => ?_, fun base _ _ => ?_⟩
  · have := ((lv h).lk fdat lk).2 s [u] (by rw [hps]; rfl)
    rw [hps] at this
    exact this
  · obtain ⟨T1, e⟩ := main ns hn
    exact law_says hO hS e
  · have := FnOk.wk ((lv base).lk fdat lk).1
    rw [hps] at this
    exact this
end Ev
namespace Ev
open PySem
/-- a class's first def -/
def clsInit : Stmt → Stmt
  | .ClassDef _ _ _ (st :: _) _ _ _ _ _ _ _ => st
  | s => s
end Ev
namespace Ev
open PySem
/-! ### whole numbers, their figures -/
theorem bits_zero : bits 0 = 0 := rfl
theorem bits_pos {n : Int} (h : n ≠ 0) : bits n = n.natAbs.log2 + 1 := by
  show (if (n == 0) = true then 0 else n.natAbs.log2 + 1) = _
  rw [if_neg (by simpa using h)]
theorem bits_le {n : Int} {k : Nat} : bits n ≤ k ↔ n.natAbs < 2 ^ k := by
  by_cases h : n = 0
  · subst h
    simp [bits_zero]
    exact Nat.two_pow_pos k
  · rw [bits_pos h, Nat.succ_le_iff, Nat.log2_lt (by omega)]
theorem bits_lt {n : Int} {k : Nat} : k < bits n ↔ 2 ^ k ≤ n.natAbs := by
  have := @bits_le n k
  omega
theorem bits_neg {n : Int} : bits (-n) = bits n := by
  by_cases h : n = 0
  · subst h
    rfl
  · rw [bits_pos h, bits_pos (by omega), Int.natAbs_neg]
theorem bits_mul_pow {n : Int} (h : n ≠ 0) (k : Nat) : bits (n * 2 ^ k) = bits n + k := by
  have hp : (0 : Nat) < 2 ^ k := Nat.two_pow_pos k
  have e : (n * 2 ^ k).natAbs = n.natAbs * 2 ^ k := by
    rw [Int.natAbs_mul, Int.natAbs_pow]
    rfl
  have h2 : n * 2 ^ k ≠ 0 := by
    intro z
    have : (n * 2 ^ k).natAbs = 0 := by rw [z]; rfl
    rw [e] at this
    rcases Nat.mul_eq_zero.mp this with z | z <;> omega
  apply Nat.le_antisymm
  · rw [bits_le, e, Nat.pow_add]
    exact Nat.mul_lt_mul_of_pos_right (bits_le.mp (Nat.le_refl _)) hp
  · refine Nat.le_of_not_lt fun z => ?_
    have h3 : bits (n * 2 ^ k) ≤ bits n - 1 + k := by have := bits_pos h; omega
    rw [bits_le, e, Nat.pow_add] at h3
    have h4 := Nat.lt_of_mul_lt_mul_right h3
    rw [← bits_le] at h4
    have := bits_pos h
    omega
/-- an odd number times a power of two -/
theorem odd_part : ∀ {n : Int}, n ≠ 0 → ∃ (k : Nat) (a : Int), n = 2 ^ k * (2 * a + 1) := by
  intro n
  induction h : n.natAbs using Nat.strongRecOn generalizing n with
  | _ m ih =>
    intro hn
    subst h
    by_cases ho : n % 2 = 1
    · exact ⟨0, n / 2, by omega⟩
    · obtain ⟨k, a, e⟩ := ih (n / 2).natAbs (by omega) rfl (by omega)
      refine ⟨k + 1, a, ?_⟩
      have h2 : n = (n / 2) * 2 := by omega
      rw [Int.pow_succ, Int.mul_assoc, Int.mul_comm 2, ← Int.mul_assoc, ← e]
      exact h2
/-- how many twos -/
def tz (n : Int) : Nat := bits (Builtin.bitAnd n (-n)) - 1
theorem bits_two_pow {k : Nat} : bits (2 ^ k : Int) = k + 1 := by
  have := bits_mul_pow (n := 1) (by decide) k
  rw [Int.one_mul] at this
  rw [this]
  have : bits 1 = 1 := by decide
  omega
theorem tz_odd (k : Nat) (a : Int) : tz (2 ^ k * (2 * a + 1)) = k := by
  unfold tz
  rw [PySem.W.kbt_low, bits_two_pow]
  omega
theorem tz_bits {n : Int} (h : n ≠ 0) : (bits (Builtin.bitAnd n (-n)) : Int) - 1 = (tz n : Int) := by
  obtain ⟨k, a, rfl⟩ := odd_part h
  rw [tz_odd, PySem.W.kbt_low, bits_two_pow]
  omega
/-- the number m * 2 ^ e, told as the program tells it -/
def num (m e : Int) : Int × Int := if m = 0 then (0, 0) else (m / 2 ^ tz m, e + tz m)
theorem num_zero {e : Int} : num 0 e = (0, 0) := rfl
theorem pow_pos2 (k : Nat) : (0 : Int) < 2 ^ k := Int.pow_pos (by decide)
theorem num_odd {k : Nat} {a e : Int} : num (2 ^ k * (2 * a + 1)) e = (2 * a + 1, e + k) := by
  have h : (2 : Int) ^ k * (2 * a + 1) ≠ 0 := by
    intro z
    rcases Int.mul_eq_zero.mp z with z | z
    · have := pow_pos2 k
      omega
    · omega
  unfold num
  rw [if_neg h, tz_odd, Int.mul_ediv_cancel_left _ (by have := pow_pos2 k; omega)]
theorem num_shift {n b : Int} {j : Nat} : num (n * 2 ^ j) b = num n (b + j) := by
  by_cases h : n = 0
  · subst h
    rw [Int.zero_mul]
    rfl
  · obtain ⟨k, a, rfl⟩ := odd_part h
    have e : (2 : Int) ^ k * (2 * a + 1) * 2 ^ j = 2 ^ (j + k) * (2 * a + 1) := by
      rw [Int.pow_add, Int.mul_comm, Int.mul_assoc]
    rw [e, num_odd, num_odd]
    simp
    omega
/-- a number as data -/
def pr (a : Int × Int) : D := .tup [.int a.1, .int a.2]
abbrev N (n b : Int) : D := pr (num n b)
/-- the parts of a number told -/
theorem num_parts {n b : Int} (h : n ≠ 0) : ∃ (k : Nat) (m : Int), m % 2 = 1 ∧ n = m * 2 ^ k ∧ num n b = (m, b + k) := by
  obtain ⟨k, a, rfl⟩ := odd_part h
  exact ⟨k, 2 * a + 1, by omega, Int.mul_comm _ _, num_odd⟩
theorem num_neg {n b : Int} : num (-n) b = (-(num n b).1, (num n b).2) := by
  by_cases h : n = 0
  · subst h
    rfl
  · obtain ⟨k, a, rfl⟩ := odd_part h
    have e : -((2 : Int) ^ k * (2 * a + 1)) = 2 ^ k * (2 * (-a - 1) + 1) := by
      rw [← Int.mul_neg]
      congr 1
      omega
    rw [e, num_odd, num_odd]
    simp
    omega
end Ev
namespace Ev
open PySem
/-! ### rounding -/
def wNear : Str := ⟨#[110, 101, 97, 114]⟩
def wOdd : Str := ⟨#[111, 100, 100]⟩
def wDown : Str := ⟨#[100, 111, 119, 110]⟩
def wUp : Str := ⟨#[117, 112]⟩
def wZero : Str := ⟨#[122, 101, 114, 111]⟩
/-- is the figure raised -/
def upW (w : Str) (q side : Int) (neg : Bool) : Bool :=
  if w = wNear then decide (0 < side) || (decide (side = 0) && decide (q % 2 = 1))
  else if w = wOdd then decide (q % 2 = 0)
  else decide (w = if neg = true then wDown else wUp)
/-- the places that are cut -/
def cutK (p : Nat) (n : Int) : Nat := bits n - p
def rnQ (p : Nat) (w : Str) (n : Int) : Int :=
  let a : Int := if n < 0 then -n else n
  let q := a / 2 ^ cutK p n
  let r := a % 2 ^ cutK p n
  if 0 < r ∧ upW w q (2 * r - 2 ^ cutK p n) (decide (n < 0)) = true then q + 1 else q
/-- its rounded figures, with the sign -/
def rnq (p : Nat) (w : Str) (n : Int) : Int := if 0 < n then rnQ p w n else -rnQ p w n
/-- n rounded to p figures by the word w -/
def rn (p : Nat) (w : Str) (n : Int) : Int := if bits n ≤ p then n else rnq p w n * 2 ^ cutK p n
theorem rn_id {p : Nat} {w : Str} {n : Int} (h : bits n ≤ p) : rn p w n = n := by
  unfold rn
  rw [if_pos h]
theorem rn_zero {p : Nat} {w : Str} : rn p w 0 = 0 := rn_id (by rw [bits_zero]; omega)
theorem rn_big {p : Nat} {w : Str} {n : Int} (h : p < bits n) : rn p w n = rnq p w n * 2 ^ cutK p n := by
  unfold rn
  rw [if_neg (by omega)]
theorem abs_pos {n : Int} (h : n ≠ 0) : 0 < (if n < 0 then -n else n) := by
  split <;> omega
theorem abs_natAbs {n : Int} : (if n < 0 then -n else n) = (n.natAbs : Int) := by
  split <;> omega
theorem pow_cast {k : Nat} : ((2 ^ k : Nat) : Int) = (2 : Int) ^ k := by
  rw [Int.natCast_pow]
  rfl
theorem abs_lt_bits {n : Int} {k : Nat} (h : bits n ≤ k) : (if n < 0 then -n else n) < 2 ^ k := by
  rw [abs_natAbs, ← pow_cast]
  exact Int.ofNat_lt.mpr (bits_le.mp h)
theorem abs_ge_bits {n : Int} {k : Nat} (h : k < bits n) : (2 : Int) ^ k ≤ (if n < 0 then -n else n) := by
  rw [abs_natAbs, ← pow_cast]
  exact Int.ofNat_le.mpr (bits_lt.mp h)
/-- the quotient of a number with more than p figures has p -/
theorem quo_ge {p : Nat} {n : Int} (hp : 1 ≤ p) (h : p < bits n) : (2 : Int) ^ (p - 1) ≤ (if n < 0 then -n else n) / 2 ^ cutK p n := by
  rw [Int.le_ediv_iff_mul_le (pow_pos2 _), ← Int.pow_add]
  have : p - 1 + cutK p n = bits n - 1 := by unfold cutK; omega
  rw [this]
  exact abs_ge_bits (by omega)
theorem quo_lt {p : Nat} {n : Int} (h : p ≤ bits n) : (if n < 0 then -n else n) / 2 ^ cutK p n < 2 ^ p := by
  rw [Int.ediv_lt_iff_lt_mul (pow_pos2 _), ← Int.pow_add]
  have : p + cutK p n = bits n := by unfold cutK; omega
  rw [this]
  exact abs_lt_bits (Nat.le_refl _)
theorem rnQ_or {p : Nat} {w : Str} {n : Int} : rnQ p w n = (if n < 0 then -n else n) / 2 ^ cutK p n ∨ rnQ p w n = (if n < 0 then -n else n) / 2 ^ cutK p n + 1 := by
  unfold rnQ
  simp only
  generalize (if n < 0 then -n else n) = a
  split
  · exact .inr rfl
  · exact .inl rfl
theorem emod_mul {x y c : Int} (h : 0 < c) : x * c % (y * c) = x % y * c := by
  rw [Int.mul_comm x, Int.mul_comm y, Int.mul_emod_mul_of_pos _ _ h, Int.mul_comm]
theorem rnQ_pos {p : Nat} {w : Str} {n : Int} (hp : 1 ≤ p) (h : p < bits n) : 0 < rnQ p w n := by
  have h1 := quo_ge hp h
  have h2 := pow_pos2 (p - 1)
  rcases @rnQ_or p w n with e | e <;> omega
theorem rnq_ne {p : Nat} {w : Str} {n : Int} (hp : 1 ≤ p) (h : p < bits n) : rnq p w n ≠ 0 := by
  have := rnQ_pos (w := w) hp h
  unfold rnq
  split <;> omega
theorem sign_mul {n : Int} {k : Nat} : (n * 2 ^ k < 0 ↔ n < 0) ∧ (0 < n * 2 ^ k ↔ 0 < n) := by
  have hp := pow_pos2 k
  constructor
  · constructor
    · intro h
      refine Int.lt_of_not_ge fun z => ?_
      have := Int.mul_nonneg z (Int.le_of_lt hp)
      omega
    · intro h
      exact Int.mul_neg_of_neg_of_pos h hp
  · constructor
    · intro h
      refine Int.lt_of_not_ge fun z => ?_
      have := Int.mul_nonneg (a := -n) (by omega) (Int.le_of_lt hp)
      rw [Int.neg_mul] at this
      omega
    · intro h
      exact Int.mul_pos h hp
theorem abs_mul {n : Int} {k : Nat} : (if n * 2 ^ k < 0 then -(n * 2 ^ k) else n * 2 ^ k) = (if n < 0 then -n else n) * 2 ^ k := by
  by_cases h : n < 0
  · rw [if_pos (sign_mul.1.mpr h), if_pos h, Int.neg_mul]
  · rw [if_neg (fun z => h (sign_mul.1.mp z)), if_neg h]
/-- elsewhere it is rounded alike -/
theorem rn_scale {p : Nat} {w : Str} {n : Int} {k : Nat} (hp : 1 ≤ p) : rn p w (n * 2 ^ k) = rn p w n * 2 ^ k := by
  by_cases h0 : n = 0
  · subst h0
    rw [Int.zero_mul, rn_zero, Int.zero_mul]
  have hb := bits_mul_pow h0 k
  have hpk := pow_pos2 k
  by_cases h1 : bits n + k ≤ p
  · rw [rn_id (by omega), rn_id (by omega)]
  by_cases h2 : bits n ≤ p
  · -- nothing is lost
    rw [rn_id h2, rn_big (by omega)]
    have hc : cutK p (n * 2 ^ k) ≤ k := by unfold cutK; omega
    obtain ⟨j, hj⟩ : ∃ j, k = j + cutK p (n * 2 ^ k) := ⟨k - cutK p (n * 2 ^ k), by omega⟩
    have e0 : (if n < 0 then -n else n) * 2 ^ k = ((if n < 0 then -n else n) * 2 ^ j) * 2 ^ cutK p (n * 2 ^ k) := by
      rw [Int.mul_assoc, ← Int.pow_add, ← hj]
    have e1 : rnQ p w (n * 2 ^ k) = (if n < 0 then -n else n) * 2 ^ j := by
      unfold rnQ
      simp only
      rw [abs_mul, e0, Int.mul_emod_left, if_neg (by omega), Int.mul_ediv_cancel _ (by have := pow_pos2 (cutK p (n * 2 ^ k)); omega)]
    unfold rnq
    rw [e1]
    by_cases hn : 0 < n
    · rw [if_pos (sign_mul.2.mpr hn), if_neg (by omega), Int.mul_assoc, ← Int.pow_add, ← hj]
    · rw [if_neg (fun z => hn (sign_mul.2.mp z)), if_pos (by omega), Int.neg_mul, Int.neg_mul, Int.neg_mul, Int.neg_neg, Int.mul_assoc, ← Int.pow_add, ← hj]
  · have hc : cutK p (n * 2 ^ k) = cutK p n + k := by unfold cutK; omega
    rw [rn_big (by omega), rn_big (by omega), hc]
    have e1 : rnQ p w (n * 2 ^ k) = rnQ p w n := by
      unfold rnQ
      simp only
      rw [abs_mul, hc, Int.pow_add, Int.mul_ediv_mul_of_pos_left _ _ hpk, emod_mul hpk]
      have s1 : (0 < (if n < 0 then -n else n) % 2 ^ cutK p n * 2 ^ k) ↔ 0 < (if n < 0 then -n else n) % 2 ^ cutK p n := sign_mul.2
      have s2 : 2 * ((if n < 0 then -n else n) % 2 ^ cutK p n * 2 ^ k) - 2 ^ cutK p n * 2 ^ k = (2 * ((if n < 0 then -n else n) % 2 ^ cutK p n) - 2 ^ cutK p n) * 2 ^ k := by
        rw [Int.sub_mul, Int.mul_assoc]
      rw [s2]
      have s3 : decide (n * 2 ^ k < 0) = decide (n < 0) := decide_eq_decide.mpr sign_mul.1
      rw [s3]
      have s4 : ∀ (q x : Int) (b : Bool), upW w q (x * 2 ^ k) b = upW w q x b := fun q x b => by
        unfold upW
        have t1 : decide (0 < x * 2 ^ k) = decide (0 < x) := decide_eq_decide.mpr sign_mul.2
        have t2 : decide (x * 2 ^ k = 0) = decide (x = 0) := decide_eq_decide.mpr ⟨fun z => by
          rcases Int.mul_eq_zero.mp z with z | z <;> omega, fun z => by rw [z, Int.zero_mul]⟩
        rw [t1, t2]
      rw [s4]
      simp only [s1]
    unfold rnq
    rw [e1, Int.pow_add]
    have s5 : (0 < n * 2 ^ k) ↔ 0 < n := sign_mul.2
    simp only [s5, Int.mul_assoc]
theorem rn_num {p : Nat} {w : Str} {n b : Int} (hp : 1 ≤ p) (h : p < bits n) : num (rnq p w n) (b + cutK p n) = num (rn p w n) b := by
  rw [rn_big h, num_shift]
end Ev
namespace Ev
open PySem
theorem num_odd1 {m e : Int} (h : m % 2 = 1) : num m e = (m, e) := by
  have := @num_odd 0 (m / 2) e
  rw [Int.pow_zero, Int.one_mul] at this
  have e2 : 2 * (m / 2) + 1 = m := by omega
  rw [e2] at this
  rw [this]
  simp
/-- the sum of two numbers told -/
def low2 (a c : Int × Int) : Int := if c.2 < a.2 then c.2 else a.2
theorem num_add {x y b : Int} : num ((num x b).1 * 2 ^ ((num x b).2 - low2 (num x b) (num y b)).toNat + (num y b).1 * 2 ^ ((num y b).2 - low2 (num x b) (num y b)).toNat) (low2 (num x b) (num y b)) = num (x + y) b := by
  by_cases hx : x = 0
  · subst hx
    rw [Int.zero_add]
    generalize hc : num y b = c
    have e1 : (num (0 : Int) b) = (0, 0) := rfl
    rw [e1]
    show num (0 * _ + c.1 * 2 ^ (c.2 - low2 (0, 0) c).toNat) (low2 (0, 0) c) = c
    rw [Int.zero_mul, Int.zero_add, num_shift]
    have hl : low2 (0, 0) c ≤ c.2 := by
      unfold low2
      split <;> omega
    have e2 : low2 (0, 0) c + ((c.2 - low2 (0, 0) c).toNat : Nat) = c.2 := by omega
    rw [e2, ← hc]
    by_cases hy : y = 0
    · subst hy
      rfl
    · obtain ⟨k, m, ho, e3, e4⟩ := num_parts (b := b) hy
      rw [e4]
      exact num_odd1 ho
  by_cases hy : y = 0
  · subst hy
    rw [Int.add_zero]
    generalize hc : num x b = c
    have e1 : (num (0 : Int) b) = (0, 0) := rfl
    rw [e1]
    show num (c.1 * 2 ^ (c.2 - low2 c (0, 0)).toNat + 0 * _) (low2 c (0, 0)) = c
    rw [Int.zero_mul, Int.add_zero, num_shift]
    have hl : low2 c (0, 0) ≤ c.2 := by
      unfold low2
      split
      · have : (0 : Int) < c.2 := by assumption
        show (0 : Int) ≤ c.2
        omega
      · exact Int.le_refl _
    have e2 : low2 c (0, 0) + ((c.2 - low2 c (0, 0)).toNat : Nat) = c.2 := by omega
    rw [e2, ← hc]
    obtain ⟨k, m, ho, e3, e4⟩ := num_parts (b := b) hx
    rw [e4]
    exact num_odd1 ho
  · obtain ⟨k, m, ho, e3, e4⟩ := num_parts (b := b) hx
    obtain ⟨k', m', ho', e3', e4'⟩ := num_parts (b := b) hy
    rw [e4, e4']
    by_cases hk : k' < k
    · have el : low2 (m, b + (k : Int)) (m', b + (k' : Int)) = b + k' := by
        unfold low2
        exact if_pos (by show b + (k' : Int) < b + k; omega)
      rw [el]
      have t1 : (b + (k : Int) - (b + (k' : Int))).toNat = k - k' := by omega
      have t2 : (b + (k' : Int) - (b + (k' : Int))).toNat = 0 := by omega
      show num (m * 2 ^ (b + (k : Int) - (b + (k' : Int))).toNat + m' * 2 ^ (b + (k' : Int) - (b + (k' : Int))).toNat) _ = _
      rw [t1, t2, Int.pow_zero, Int.mul_one, ← num_shift, Int.add_mul, Int.mul_assoc, ← Int.pow_add, Nat.sub_add_cancel (by omega), ← e3, ← e3']
    · have el : low2 (m, b + (k : Int)) (m', b + (k' : Int)) = b + k := by
        unfold low2
        exact if_neg (by show ¬ b + (k' : Int) < b + k; omega)
      rw [el]
      have t1 : (b + (k' : Int) - (b + (k : Int))).toNat = k' - k := by omega
      have t2 : (b + (k : Int) - (b + (k : Int))).toNat = 0 := by omega
      show num (m * 2 ^ (b + (k : Int) - (b + (k : Int))).toNat + m' * 2 ^ (b + (k' : Int) - (b + (k : Int))).toNat) _ = _
      rw [t1, t2, Int.pow_zero, Int.mul_one, ← num_shift, Int.add_mul, Int.mul_assoc, ← Int.pow_add, Nat.sub_add_cancel (by omega), ← e3, ← e3']
/-- how great the parts are -/
theorem num_bd {x b : Int} {n : Nat} (hx : bits x ≤ n) : bits (num x b).1 ≤ n ∧ ((num x b).2 = 0 ∧ (num x b).1 = 0 ∨ b ≤ (num x b).2 ∧ (num x b).2 < b + n ∧ (num x b).1 % 2 = 1) := by
  by_cases h : x = 0
  · subst h
    exact ⟨by show bits 0 ≤ n; rw [bits_zero]; omega, .inl ⟨rfl, rfl⟩⟩
  · obtain ⟨k, m, ho, e3, e4⟩ := num_parts (b := b) h
    have hm : m ≠ 0 := by omega
    have hb := bits_mul_pow hm k
    rw [← e3] at hb
    have := bits_pos hm
    rw [e4]
    refine ⟨by show bits m ≤ n; omega, .inr ⟨by show b ≤ b + (k : Int); omega, by show b + (k : Int) < b + n; omega, ho⟩⟩
theorem num_mul {x y b c : Int} : num ((num x b).1 * (num y c).1) ((num x b).2 + (num y c).2) = num (x * y) (b + c) := by
  by_cases hx : x = 0
  · subst hx
    show num (0 * _) _ = num (0 * y) _
    rw [Int.zero_mul, Int.zero_mul]
    rfl
  by_cases hy : y = 0
  · subst hy
    show num (_ * 0) _ = num (x * 0) _
    rw [Int.mul_zero, Int.mul_zero]
    rfl
  · obtain ⟨k, m, ho, e3, e4⟩ := num_parts (b := b) hx
    obtain ⟨k', m', ho', e3', e4'⟩ := num_parts (b := c) hy
    rw [e4, e4']
    show num (m * m') (b + (k : Int) + (c + (k' : Int))) = _
    have e : b + (k : Int) + (c + (k' : Int)) = (b + c) + ((k + k' : Nat) : Int) := by omega
    rw [e, ← num_shift, e3, e3', Int.pow_add]
    congr 1
    simp [Int.mul_assoc, Int.mul_left_comm, Int.mul_comm]
theorem bits_add {x y : Int} {n : Nat} (hx : bits x ≤ n) (hy : bits y ≤ n) : bits (x + y) ≤ n + 1 := by
  rw [bits_le] at *
  rw [Nat.pow_succ]
  omega
theorem bits_mul {x y : Int} {n m : Nat} (hx : bits x ≤ n) (hy : bits y ≤ m) : bits (x * y) ≤ n + m := by
  rw [bits_le] at *
  rw [Int.natAbs_mul, Nat.pow_add]
  by_cases h : y.natAbs = 0
  · rw [h, Nat.mul_zero]
    exact Nat.mul_pos (Nat.two_pow_pos _) (Nat.two_pow_pos _)
  · exact Nat.lt_of_lt_of_le (Nat.mul_lt_mul_of_pos_right hx (by omega)) (Nat.mul_le_mul_left _ (Nat.le_of_lt hy))
/-- a rounded number's size -/
theorem bits_rn {p : Nat} {w : Str} {x : Int} {n : Nat} (hp : 1 ≤ p) (hx : bits x ≤ n) : bits (rn p w x) ≤ n + 1 := by
  by_cases h : bits x ≤ p
  · rw [rn_id h]
    omega
  · rw [rn_big (by omega), bits_mul_pow (rnq_ne hp (by omega))]
    have h1 := quo_lt (p := p) (n := x) (by omega)
    have h2 : bits (rnq p w x) ≤ p + 1 := by
      rw [bits_le, Nat.pow_succ]
      have h3 := pow_pos2 p
      have h4 : (2 : Int) ^ p = ((2 ^ p : Nat) : Int) := pow_cast.symm
      have h5 := rnQ_pos (w := w) hp (show p < bits x by omega)
      have h6 : rnQ p w x ≤ 2 ^ p := by
        rcases @rnQ_or p w x with e | e <;> omega
      unfold rnq
      split <;> omega
    unfold cutK
    omega
end Ev
namespace Ev
open PySem
/-! ### the evaluator's operators at ints -/
theorem i_add {T : Sto} {i j : Int} : opW .Add T (.v (.int i)) (.v (.int j)) = some (.v (.int (i + j))) := rfl
theorem i_sub {T : Sto} {i j : Int} : opW .Sub T (.v (.int i)) (.v (.int j)) = some (.v (.int (i - j))) := rfl
theorem i_mul {T : Sto} {i j : Int} (h : bits i + bits j ≤ 100000000) : opW .Mult T (.v (.int i)) (.v (.int j)) = some (.v (.int (i * j))) := by
  show (if bits i + bits j ≤ BB then some (W.v (.int (i * j))) else none) = _
  rw [if_pos h]
theorem i_shl {T : Sto} {i j : Int} (h0 : 0 ≤ j) (h : (bits i : Int) + j ≤ 100000000) : opW .LShift T (.v (.int i)) (.v (.int j)) = some (.v (.int (i * 2 ^ j.toNat))) := by
  show (match (if 0 ≤ j ∧ (bits i : Int) + j ≤ ((100000000 : Nat) : Int) then some (i * 2 ^ j.toNat) else none) with | some k => some (W.v (.int k)) | none => none) = _
  rw [if_pos ⟨h0, h⟩]
theorem i_shr {T : Sto} {i j : Int} (h0 : 0 ≤ j) : opW .RShift T (.v (.int i)) (.v (.int j)) = some (.v (.int (i / 2 ^ j.toNat))) := by
  show (match (if 0 ≤ j then some (i / 2 ^ j.toNat) else none) with | some k => some (W.v (.int k)) | none => none) = _
  rw [if_pos h0]
theorem i_mod {T : Sto} {i j : Int} (h0 : 0 < j) : opW .Mod T (.v (.int i)) (.v (.int j)) = some (.v (.int (i % j))) := by
  show (match (if 0 < j then some (i % j) else none) with | some k => some (W.v (.int k)) | none => none) = _
  rw [if_pos h0]
theorem i_div {T : Sto} {i j : Int} (h0 : 0 < j) (h : bits j ≤ 9000 ∨ bits i ≤ bits j + 4000) : opW .FloorDiv T (.v (.int i)) (.v (.int j)) = some (.v (.int (i / j))) := by
  show (match (if 0 < j ∧ (bits j ≤ 9000 ∨ bits i ≤ bits j + 4000) then some (i / j) else none) with | some k => some (W.v (.int k)) | none => none) = _
  rw [if_pos ⟨h0, h⟩]
theorem i_pow {T : Sto} {i j : Int} (h0 : 0 ≤ j) (h1 : j ≤ 1000000) (h2 : i.natAbs < 2 ^ 64) : opW .Pow T (.v (.int i)) (.v (.int j)) = some (.v (.int (i ^ j.toNat))) := by
  show (match (if 0 ≤ j ∧ j ≤ 1000000 ∧ i.natAbs < 2 ^ 64 then some (i ^ j.toNat) else none) with | some k => some (W.v (.int k)) | none => none) = _
  rw [if_pos ⟨h0, h1, h2⟩]
theorem i_and {T : Sto} {i j : Int} : opW .BitAnd T (.v (.int i)) (.v (.int j)) = some (.v (.int (Builtin.bitAnd i j))) := rfl
theorem i_and1 {T : Sto} {i : Int} : opW .BitAnd T (.v (.int i)) (.v (.int 1)) = some (.v (.int (i % 2))) := by
  rw [i_and, PyProof.Rows.bitAnd_m1]
theorem c_lt {T : Sto} {i j : Int} : cmpW .Lt T (.v (.int i)) (.v (.int j)) = some (decide (i < j)) := rfl
theorem c_le {T : Sto} {i j : Int} : cmpW .LtE T (.v (.int i)) (.v (.int j)) = some (decide (i ≤ j)) := rfl
theorem c_gt {T : Sto} {i j : Int} : cmpW .Gt T (.v (.int i)) (.v (.int j)) = some (decide (j < i)) := rfl
theorem c_ge {T : Sto} {i j : Int} : cmpW .GtE T (.v (.int i)) (.v (.int j)) = some (decide (j ≤ i)) := rfl
theorem c_eq {T : Sto} {i j : Int} : cmpW .Eq T (.v (.int i)) (.v (.int j)) = some (decide (i = j)) := rfl
theorem c_ne {T : Sto} {i j : Int} : cmpW .NotEq T (.v (.int i)) (.v (.int j)) = some (!decide (i = j)) := rfl
theorem c_eqs {T : Sto} {x y : Str} : cmpW .Eq T (.v (.str x)) (.v (.str y)) = some (decide (x = y)) := rfl
theorem c_nes {T : Sto} {x y : Str} : cmpW .NotEq T (.v (.str x)) (.v (.str y)) = some (!decide (x = y)) := rfl
theorem x_min {i j : Int} : b2W .min (.v (.int i)) (.v (.int j)) = some (.v (.int (if j < i then j else i))) := rfl
theorem x_max {i j : Int} : b2W .max (.v (.int i)) (.v (.int j)) = some (.v (.int (if j > i then j else i))) := rfl
theorem x_abs {T : Sto} {i : Int} : b1W .abs T (.v (.int i)) = some (.v (.int (if i < 0 then -i else i))) := rfl
theorem x_int {T : Sto} {i : Int} : b1W .int T (.v (.int i)) = some (.v (.int i)) := rfl
/-- the parts of a pair -/
theorem x_pr0 {T : Sto} {a : Int × Int} : ixW T (.v (pr a)) (.v (.int 0)) = some (.v (.int a.1)) := rfl
theorem x_pr1 {T : Sto} {a : Int × Int} : ixW T (.v (pr a)) (.v (.int 1)) = some (.v (.int a.2)) := rfl
theorem x_t0 {T : Sto} {a : D} {as : List D} : ixW T (.v (.tup (a :: as))) (.v (.int 0)) = some (.v a) := by
  simp [ixW, W.items, ixD, L2.atI, L2.ixN]
theorem pr_tup {a b : Int} : D.tup [.int a, .int b] = pr (a, b) := rfl
/-! ### the evaluator runs from the front -/
theorem e_var {c : Call} {i : Nat} {η : En} {T : Sto} : evE c (.var i) η T =
    match η.get i with
    | .val d => .ok (.v d) T
    | .own xs => .ok (.l false xs) T
    | .err _ _ => .no
    | .no => .no := by rw [evE] <;> rfl
theorem e_cst {c : Call} {d : D} {η : En} {T : Sto} : evE c (.cst d) η T =
    .ok (.v d) T := by rw [evE] <;> rfl
theorem e_gfn {c : Call} {f : Nat} {η : En} {T : Sto} : evE c (.gfn f) η T =
    .ok (.v (.fn f)) T := by rw [evE] <;> rfl
theorem e_tup {c : Call} {es : List E} {η : En} {T : Sto} : evE c (.tup es) η T =
    (evDs c es η T).bind fun ds T => .ok (.v (.tup ds)) T := by rw [evE] <;> rfl
theorem e_lst {c : Call} {es : List E} {η : En} {T : Sto} : evE c (.lst es) η T =
    (evDs c es η T).bind fun ds T => .ok (.l true ds) T := by rw [evE] <;> rfl
theorem e_bin {c : Call} {op : Operator} {a b : E} {η : En} {T : Sto} : evE c (.bin op a b) η T =
    (evE c a η T).bind fun x T => (evE c b η T).bind fun y T => Re.of (opW op T x y) T := by rw [evE] <;> rfl
theorem e_neg {c : Call} {a : E} {η : En} {T : Sto} : evE c (.neg a) η T =
    (evE c a η T).bind fun x T => match x.i? with
    | some i => .ok (.v (.int (-i))) T
    | none => .no := by rw [evE] <;> rfl
theorem e_cmp {c : Call} {op : CmpOp} {a b : E} {η : En} {T : Sto} : evE c (.cmp op a b) η T =
    (evE c a η T).bind fun x T => (evE c b η T).bind fun y T => (Re.of (cmpW op T x y) T).bind fun k T => .ok (.v (.bl k)) T := by rw [evE] <;> rfl
theorem e_chain {c : Call} {op op2 : CmpOp} {a b d : E} {η : En} {T : Sto} : evE c (.chain op op2 a b d) η T =
    (evE c a η T).bind fun x T => (evE c b η T).bind fun y T => (Re.of (cmpW op T x y) T).bind fun k T =>
    if k then (evE c d η T).bind fun z T => (Re.of (cmpW op2 T y z) T).bind fun k T => .ok (.v (.bl k)) T else .ok (.v (.bl false)) T := by rw [evE] <;> rfl
theorem e_and {c : Call} {a b : E} {η : En} {T : Sto} : evE c (.and a b) η T =
    (evE c a η T).bind fun x T => match x.b? with
    | some k => if k then evE c b η T else .ok (.v (.bl false)) T
    | none => .no := by rw [evE] <;> rfl
theorem e_or {c : Call} {a b : E} {η : En} {T : Sto} : evE c (.or a b) η T =
    (evE c a η T).bind fun x T => match x.b? with
    | some k => if k then .ok (.v (.bl true)) T else evE c b η T
    | none => .no := by rw [evE] <;> rfl
theorem e_not {c : Call} {a : E} {η : En} {T : Sto} : evE c (.not a) η T =
    (evE c a η T).bind fun x T => match x.b? with
    | some k => .ok (.v (.bl (!k))) T
    | none => .no := by rw [evE] <;> rfl
theorem e_ife {c : Call} {t a b : E} {η : En} {T : Sto} : evE c (.ife t a b) η T =
    (evE c t η T).bind fun x T => match x.b? with
    | some k => if k then evE c a η T else evE c b η T
    | none => .no := by rw [evE] <;> rfl
theorem e_ix {c : Call} {a i : E} {η : En} {T : Sto} : evE c (.ix a i) η T =
    (evE c a η T).bind fun x T => (evE c i η T).bind fun y T => Re.of (ixW T x y) T := by rw [evE] <;> rfl
theorem e_sl {c : Call} {a : E} {lo hi : Option E} {η : En} {T : Sto} : evE c (.sl a lo hi) η T =
    (evE c a η T).bind fun x T => (evO c lo η T).bind fun l T => (evO c hi η T).bind fun h T => Re.of (slW T x l h) T := by rw [evE] <;> rfl
theorem e_call {c : Call} {f : Nat} {es : List E} {η : En} {T : Sto} : evE c (.call f es) η T =
    (evDs c es η T).bind fun ds T => (c f ds T).bind fun d T => .ok (.v d) T := by rw [evE] <;> rfl
theorem e_callK {c : Call} {f np : Nat} {perm : List Nat} {es : List E} {η : En} {T : Sto} : evE c (.callK f np perm es) η T =
    (evDs c es η T).bind fun ds T => match permD perm ds with
    | some ds => (c f ds T).bind fun d T => .ok (.v d) T
    | none => .no := by rw [evE] <;> rfl
theorem e_b1 {c : Call} {b : B1} {a : E} {η : En} {T : Sto} : evE c (.b1 b a) η T =
    (evE c a η T).bind fun x T => Re.of (b1W b T x) T := by rw [evE] <;> rfl
theorem e_b2 {c : Call} {b : B2} {a1 a2 : E} {η : En} {T : Sto} : evE c (.b2 b a1 a2) η T =
    (evE c a1 η T).bind fun x T => (evE c a2 η T).bind fun y T => Re.of (b2W b x y) T := by rw [evE] <;> rfl
theorem e_isi {c : Call} {a : E} {t : Ty} {η : En} {T : Sto} : evE c (.isi a t) η T =
    (evE c a η T).bind fun x T => (Re.of (isiW t x) T).bind fun k T => .ok (.v (.bl k)) T := by rw [evE] <;> rfl
theorem e_bits {c : Call} {a : E} {η : En} {T : Sto} : evE c (.bitlen a) η T =
    (evE c a η T).bind fun x T => match x.i? with
    | some i => .ok (.v (.int (bits i : Nat))) T
    | none => .no := by rw [evE] <;> rfl
theorem e_pop {c : Call} {o : E} {η : En} {T : Sto} : evE c (.pop o) η T =
    (evE c o η T).bind fun x T => match x with
    | .v (.loc n) => (match T[n]? with
      | some xs => (match xs.getLast? with
        | some d => .ok (.v d) (T.set n xs.dropLast)
        | none => .no)
      | none => .no)
    | _ => .no := by rw [evE] <;> rfl
theorem e_share {c : Call} {e : E} {η : En} {T : Sto} : evE c (.share e) η T =
    (evE c e η T).bind fun x T => match x with
    | .l true xs => .ok (.v (.loc T.length)) (T ++ [xs])
    | _ => .no := by rw [evE] <;> rfl
theorem e_isE {c : Call} {i : Nat} {cs q : List Nat} {o : Bool} {η : En} {T : Sto} : evE c (.isE i cs q o) η T =
    match η.get i with
    | .err cc _ => .ok (.v (.bl (cs.contains cc))) T
    | _ => .no := by rw [evE] <;> rfl
theorem e_fldE {c : Call} {i : Nat} {f : Str} {η : En} {T : Sto} : evE c (.fldE i f) η T =
    match η.get i with
    | .err _ (some (f', d)) => if f' = f then .ok (.v d) T else .no
    | _ => .no := by rw [evE] <;> rfl
theorem o_n {c : Call}  {η : En} {T : Sto} : evO c none η T =
    .ok none T := by rw [evO] <;> rfl
theorem o_s {c : Call} {e : E} {η : En} {T : Sto} : evO c (some e) η T =
    (evE c e η T).bind fun x T => match x.i? with
    | some i => .ok (some i) T
    | none => .no := by rw [evO] <;> rfl
theorem d_n {c : Call}  {η : En} {T : Sto} : evDs c [] η T =
    .ok [] T := by rw [evDs] <;> rfl
theorem d_c {c : Call} {e : E} {es : List E} {η : En} {T : Sto} : evDs c (e :: es) η T =
    (evE c e η T).bind fun w T => match w.st with
    | some d => (evDs c es η T).bind fun ds T => .ok (d :: ds) T
    | none => .no := by rw [evDs] <;> rfl
theorem s_asg {c : Call} {tg : Tg} {e : E} {η : En} {T : Sto} : exS c (.asg tg e) η T =
    (evE c e η T).st fun w T => match w.st with
    | some d => (match asgT tg d η with
      | some η => .nx η T
      | none => .no)
    | none => .no := by rw [exS] <;> rfl
theorem s_own {c : Call} {i : Nat} {e : E} {η : En} {T : Sto} : exS c (.own i e) η T =
    (evE c e η T).st fun w T => match w with
    | .l true xs => if i < η.length then .nx (η.put i (.own xs)) T else .no
    | _ => .no := by rw [exS] <;> rfl
theorem s_par2 {c : Call} {i j : Nat} {oi oj : Bool} {a b : E} {η : En} {T : Sto} : exS c (.par2 i oi a j oj b) η T =
    (evE c a η T).st fun w T => match slX oi w with
    | some s => (evE c b η T).st fun w2 T => (match slX oj w2 with
      | some s2 => if i < η.length ∧ j < η.length then .nx ((η.put i s).put j s2) T else .no
      | none => .no)
    | none => .no := by rw [exS] <;> rfl
theorem s_par3 {c : Call} {i j l : Nat} {oi oj ol : Bool} {a b d : E} {η : En} {T : Sto} : exS c (.par3 i oi a j oj b l ol d) η T =
    (evE c a η T).st fun w T => match slX oi w with
    | some s => (evE c b η T).st fun w2 T => (match slX oj w2 with
      | some s2 => (evE c d η T).st fun w3 T => (match slX ol w3 with
        | some s3 => if i < η.length ∧ j < η.length ∧ l < η.length then .nx (((η.put i s).put j s2).put l s3) T else .no
        | none => .no)
      | none => .no)
    | none => .no := by rw [exS] <;> rfl
theorem slX_t {xs : List D} : slX true (.l true xs) = some (.own xs) := rfl
theorem slX_v {d : D} : slX false (.v d) = some (.val d) := rfl
theorem slX_l {xs : List D} : slX false (.l true xs) = some (.val (.lst xs)) := rfl
theorem s_frz {c : Call} {i : Nat} {η : En} {T : Sto} : exS c (.frz i) η T =
    match η.own? i with
    | some xs => .nx (η.put i (.val (.lst xs))) T
    | none => .no := by rw [exS] <;> rfl
theorem s_ret {c : Call} {e : E} {η : En} {T : Sto} : exS c (.ret e) η T =
    (evE c e η T).st fun w T => match w.st with
    | some d => .rt d T
    | none => .no := by rw [exS] <;> rfl
theorem s_retN {c : Call}  {η : En} {T : Sto} : exS c .retN η T =
    .rt .non T := by rw [exS] <;> rfl
theorem s_if {c : Call} {t : E} {a b : List S} {η : En} {T : Sto} : exS c (.ife t a b) η T =
    (evE c t η T).st fun x T => match x.b? with
    | some k => if k then exB c a η T else exB c b η T
    | none => .no := by rw [exS] <;> rfl
theorem s_for {c : Call} {tg : Tg} {it : E} {b : List S} {η : En} {T : Sto} : exS c (.for tg it b) η T =
    (evI c it η T).st fun xs T => forL tg (fun η T => exB c b η T) xs η T := by rw [exS] <;> rfl
theorem s_whl {c : Call} {t : E} {b : List S} {η : En} {T : Sto} : exS c (.whl t b) η T =
    whlL (fun η T => evE c t η T) (fun η T => exB c b η T) WN η T := by rw [exS] <;> rfl
theorem s_brk {c : Call}  {η : En} {T : Sto} : exS c .brk η T =
    .bk η T := by rw [exS] <;> rfl
theorem s_cnt {c : Call}  {η : En} {T : Sto} : exS c .cnt η T =
    .ct η T := by rw [exS] <;> rfl
theorem s_exp {c : Call} {e : E} {η : En} {T : Sto} : exS c (.exp e) η T =
    (evE c e η T).st fun _ T => .nx η T := by rw [exS] <;> rfl
theorem s_app {c : Call} {i : Nat} {e : E} {η : En} {T : Sto} : exS c (.app i e) η T =
    match η.own? i with
    | some xs => (evE c e η T).st fun w T => (match w.st with
      | some d => if xs.length < LL then .nx (η.put i (.own (xs ++ [d]))) T else .no
      | none => .no)
    | none => .no := by rw [exS] <;> rfl
theorem s_setL {c : Call} {o ix e : E} {η : En} {T : Sto} : exS c (.setL o ix e) η T =
    (evE c e η T).st fun w T => match w.st with
    | some d => (evE c o η T).st fun x T => (evE c ix η T).st fun k T => (match k.i? with
      | some k => (match stL T x with
        | some (n, xs) => (match L2.ixN xs.length k with
          | some j => .nx η (T.set n (xs.set j d))
          | none => .no)
        | none => .no)
      | none => .no)
    | none => .no := by rw [exS] <;> rfl
theorem t_var {i : Nat} {d : D} {η : En} : asgT (.var i) d η =
    if i < η.length then some (η.put i (.val d)) else none := by rw [asgT] <;> rfl
theorem t_tup {ts : List Tg} {ds : List D} {η : En} : asgT (.tup ts) (.tup ds) η =
    asgL ts ds η := by rw [asgT] <;> rfl
theorem t_n {η : En} : asgL [] [] η =
    some η := by rw [asgL] <;> rfl
theorem t_c {t : Tg} {ts : List Tg} {d : D} {ds : List D} {η : En} : asgL (t :: ts) (d :: ds) η =
    match asgT t d η with
    | some η1 => asgL ts ds η1
    | none => none := by rw [asgL] <;> rfl
theorem s_raise {c : Call} {k : Nat} {f : Option Str} {es : List E} {η : En} {T : Sto} : exS c (.raise k f es) η T =
    (evDs c es η T).st fun ds T => match mkPl f ds with
    | some pl => .ex k pl T
    | none => .no := by rw [exS] <;> rfl
theorem s_try {c : Call} {b s : List S} {x i : Nat} {cs : List Nat} {η : En} {T : Sto} : exS c (.try b x cs i s) η T =
    match exB c b η T with
    | .ex cc pl T1 => if cs.contains cc then (match errPl pl with
      | some p => suiteEnd η.length (exB c s (η.errs i cc p) T1)
      | none => .no) else .ex cc pl T1
    | r => r := by rw [exS] <;> rfl
theorem exB_n {c : Call} {η : En} {T : Sto} : exB c [] η T = .nx η T := by rw [exB]
theorem exB_c {c : Call} {s : S} {ss : List S} {η : En} {T : Sto} : exB c (s :: ss) η T = (exS c s η T).bind (exB c ss) := by
  rw [exB]
theorem for_n {tg : Tg} {f : En → Sto → SR} {η : En} {T : Sto} : forL tg f [] η T = .nx η T := by rw [forL]
theorem for_c {tg : Tg} {f : En → Sto → SR} {x : D} {xs : List D} {η : En} {T : Sto} : forL tg f (x :: xs) η T = match asgT tg x η with
    | none => .no
    | some η1 => match f η1 T with
      | .nx η2 T2 => forL tg f xs η2 T2
      | .ct η2 T2 => forL tg f xs η2 T2
      | .bk η2 T2 => .nx η2 T2
      | r => r := by rw [forL] <;> rfl
theorem s_for2 {c : Call} {tg : Tg} {it : E} {b : List S} {η : En} {T : Sto} : exS c (.for tg it b) η T = (evI c it η T).st fun xs T => forL tg (exB c b) xs η T := by rw [exS] <;> rfl
theorem it_sq {c : Call} {e : E} {η : En} {T : Sto} : evI c (.sq e) η T = (evE c e η T).bind fun x T => match x.st with
    | some (.lst xs) => .ok xs T
    | some (.tup xs) => .ok xs T
    | _ => .no := by rw [evI] <;> rfl
theorem own_get {η : En} {i : Nat} : En.own? η i = match η.get i with
    | .own xs => some xs
    | _ => none := rfl
theorem x_l3 {T : Sto} {f : Bool} {a b c : D} : ixW T (.l f [a, b, c]) (.v (.int (-1))) = some (.v c) := rfl
theorem x_l4 {T : Sto} {f : Bool} {a b c d : D} : ixW T (.l f [a, b, c, d]) (.v (.int (-1))) = some (.v d) := rfl
theorem x_l5 {T : Sto} {f : Bool} {a b c d e : D} : ixW T (.l f [a, b, c, d, e]) (.v (.int (-1))) = some (.v e) := rfl
theorem x_tuple {T : Sto} {f : Bool} {xs : List D} : b1W .tuple T (.l f xs) = some (.v (.tup xs)) := rfl
theorem x_cut4 {T : Sto} {a b c d : D} : slW T (.v (.tup [a, b, c, d])) (some 2) none = some (.v (.tup [c, d])) := rfl
theorem x_t60 {T : Sto} {a b c d e f : D} : ixW T (.v (.tup [a, b, c, d, e, f])) (.v (.int 0)) = some (.v a) := rfl
theorem x_t65 {T : Sto} {a b c d e f : D} : ixW T (.v (.tup [a, b, c, d, e, f])) (.v (.int 5)) = some (.v f) := rfl
theorem x_t20 {T : Sto} {a b : D} : ixW T (.v (.tup [a, b])) (.v (.int 0)) = some (.v a) := rfl
theorem x_t21 {T : Sto} {a b : D} : ixW T (.v (.tup [a, b])) (.v (.int 1)) = some (.v b) := rfl
/-! ### frames -/
theorem start_c {n : Nat} {d : D} {ds : List D} : En.start (n + 1) (d :: ds) = .val d :: En.start n ds := by
  unfold En.start
  rw [List.map_cons, List.cons_append, List.length_cons]
  congr 3
  omega
theorem start_n {n : Nat} : En.start (n + 1) [] = .no :: En.start n [] := rfl
theorem start_0 : En.start 0 [] = [] := rfl
theorem get_0 {s : Slot} {η : En} : En.get (s :: η) 0 = s := rfl
theorem get_s {s : Slot} {η : En} {i : Nat} : En.get (s :: η) (i + 1) = En.get η i := rfl
theorem put_0 {s x : Slot} {η : En} : En.put (s :: η) 0 x = x :: η := rfl
theorem put_s {s x : Slot} {η : En} {i : Nat} : En.put (s :: η) (i + 1) x = s :: En.put η i x := rfl
theorem ended_rt {d : D} {T : Sto} : ended (.rt d T) = .ok d T := by rw [ended]
theorem ended_nx {η : En} {T : Sto} : ended (.nx η T) = .ok .non T := by rw [ended]
theorem runF_ok {c : Call} {f : Fd} {ds : List D} {T : Sto} (h : ds.length = f.ps.length) : runF c f ds T = ended (exB c f.body (.start f.N.length ds) T) := by
  unfold runF
  rw [if_pos h]
end Ev
namespace Ev
open PySem
theorem bits_abs {a : Int} : bits (if a < 0 then -a else a) = bits a := by
  split
  · exact bits_neg
  · rfl
/-- a number of this size -/
structure Sm (x b : Int) : Prop where
  bits : bits x ≤ 1000000
  lo : -1000000 ≤ b
  hi : b ≤ 1000000
theorem Sm.neg {x b : Int} (h : Sm x b) : Sm (-x) b := ⟨by rw [bits_neg]; exact h.bits, h.lo, h.hi⟩
theorem sm_shift {a c : Int × Int} {x y b : Int} (ha : a = num x b) (hc : c = num y b) (hx : Sm x b) (hy : Sm y b) : 0 ≤ a.2 - low2 a c ∧ (bits a.1 : Int) + (a.2 - low2 a c) ≤ 100000000 ∧ 0 ≤ c.2 - low2 a c ∧ (bits c.1 : Int) + (c.2 - low2 a c) ≤ 100000000 := by
  obtain ⟨h1, h2⟩ := num_bd (b := b) hx.bits
  obtain ⟨h3, h4⟩ := num_bd (b := b) hy.bits
  rw [← ha] at h1 h2
  rw [← hc] at h3 h4
  have := hx.lo
  have := hx.hi
  unfold low2
  split <;> omega
end Ev
namespace Ev
open PySem
/-- a number of k figures, its place -/
structure Sk (k : Nat) (x b : Int) : Prop where
  bits : bits x ≤ k
  lo : -1000000 ≤ b
  hi : b ≤ 1000000
section
variable {k j : Nat} {x y b c : Int}
theorem Sk.sm (h : Sk k x b) (hk : k ≤ 1000000) : Sm x b := ⟨Nat.le_trans h.bits hk, h.lo, h.hi⟩
theorem Sk.mono (h : Sk k x b) (hk : k ≤ j) : Sk j x b := ⟨Nat.le_trans h.bits hk, h.lo, h.hi⟩
theorem Sk.neg (h : Sk k x b) : Sk k (-x) b := ⟨by rw [bits_neg]; exact h.bits, h.lo, h.hi⟩
theorem Sk.add (h : Sk k x b) (h' : Sk k y b) : Sk (k + 1) (x + y) b := ⟨bits_add h.bits h'.bits, h.lo, h.hi⟩
theorem Sk.sub (h : Sk k x b) (h' : Sk k y b) : Sk (k + 1) (x - y) b := by
  rw [Int.sub_eq_add_neg]
  exact h.add h'.neg
theorem Sk.mul (h : Sk k x b) (h' : Sk j y c) (h1 : -1000000 ≤ b + c) (h2 : b + c ≤ 1000000) : Sk (k + j) (x * y) (b + c) := ⟨bits_mul h.bits h'.bits, h1, h2⟩
theorem Sk.rn {p : Nat} {w : Str} (hp : 1 ≤ p) (h : Sk k x b) : Sk (k + 1) (rn p w x) b := ⟨bits_rn hp h.bits, h.lo, h.hi⟩
end
theorem num_move {q c e : Int} (h : q ≠ 0) : ((num q c).1, (num q c).2 + e) = num q (c + e) := by
  obtain ⟨k, a, rfl⟩ := odd_part h
  rw [num_odd, num_odd]
  simp
  omega
theorem rounded_law {p : Nat} {w : Str} {m b : Int} {k : Nat} (hp : 1 ≤ p) (h : p < bits m) : num (rnq p w m) ((cutK p m : Nat) + (b + k)) = num (rn p w (m * 2 ^ k)) b := by
  rw [rn_scale hp, num_shift, rn_big h, num_shift]
  congr 1
  omega
theorem wn : (⟨#[110, 101, 97, 114]⟩ : Str) = wNear := rfl
/-! ### a split, Dekker's product -/
def hOf (p : Nat) : Nat := (p + 1) / 2
def spC (p : Nat) (x : Int) : Int := rn p wNear (x * (2 ^ hOf p + 1))
def spD (p : Nat) (x : Int) : Int := rn p wNear (spC p x - x)
def spH (p : Nat) (x : Int) : Int := rn p wNear (spC p x - spD p x)
def spL (p : Nat) (x : Int) : Int := rn p wNear (x - spH p x)
theorem bits_pow1 {h : Nat} : bits (2 ^ h + 1 : Int) ≤ h + 2 := by
  rw [bits_le]
  have h1 : (2 : Int) ^ h = ((2 ^ h : Nat) : Int) := pow_cast.symm
  have h2 := Nat.two_pow_pos h
  have h3 : 2 ^ (h + 2) = 4 * 2 ^ h := by
    rw [Nat.pow_add, Nat.mul_comm]
  omega
structure SpSk (p : Nat) (x b : Int) : Prop where
  a : Sk 102003 (x * (2 ^ hOf p + 1)) b
  c : Sk 102004 (spC p x) b
  cx : Sk 102005 (spC p x - x) b
  d : Sk 102006 (spD p x) b
  cd : Sk 102007 (spC p x - spD p x) b
  h : Sk 102008 (spH p x) b
  xh : Sk 102009 (x - spH p x) b
  l : Sk 102010 (spL p x) b
theorem spSk {p : Nat} {x b : Int} (hp : 1 ≤ p) (hp2 : p ≤ 4000) (hx : Sk 100000 x b) : SpSk p x b := by
  have ha : Sk 102003 (x * (2 ^ hOf p + 1)) b := ⟨Nat.le_trans (bits_mul hx.bits bits_pow1) (by unfold hOf; omega), hx.lo, hx.hi⟩
  have hc : Sk 102004 (spC p x) b := ha.rn hp
  have hcx : Sk 102005 (spC p x - x) b := hc.sub (hx.mono (by omega))
  have hd : Sk 102006 (spD p x) b := hcx.rn hp
  have hcd : Sk 102007 (spC p x - spD p x) b := (hc.mono (by omega)).sub hd
  have hh : Sk 102008 (spH p x) b := hcd.rn hp
  have hxh : Sk 102009 (x - spH p x) b := (hx.mono (by omega)).sub hh
  exact ⟨ha, hc, hcx, hd, hcd, hh, hxh, hxh.rn hp⟩
def dkP (p : Nat) (x y : Int) : Int := rn p wNear (x * y)
def dkF (p : Nat) (x y : Int) : Int := rn p wNear (spH p x * spH p y)
def dk1 (p : Nat) (x y : Int) : Int := rn p wNear (dkF p x y - dkP p x y)
def dk2 (p : Nat) (x y : Int) : Int := rn p wNear (dk1 p x y + rn p wNear (spH p x * spL p y))
def dk3 (p : Nat) (x y : Int) : Int := rn p wNear (dk2 p x y + rn p wNear (spL p x * spH p y))
def dk4 (p : Nat) (x y : Int) : Int := rn p wNear (dk3 p x y + rn p wNear (spL p x * spL p y))
structure DkSm (p : Nat) (x y b c : Int) : Prop where
  xy : Sm (x * y) (b + c)
  hh : Sm (spH p x * spH p y) (b + c)
  hl : Sm (spH p x * spL p y) (b + c)
  lh : Sm (spL p x * spH p y) (b + c)
  ll : Sm (spL p x * spL p y) (b + c)
  rhl : Sm (rn p wNear (spH p x * spL p y)) (b + c)
  rlh : Sm (rn p wNear (spL p x * spH p y)) (b + c)
  rll : Sm (rn p wNear (spL p x * spL p y)) (b + c)
  pP : Sm (dkP p x y) (b + c)
  pF : Sm (dkF p x y) (b + c)
  fp : Sm (dkF p x y - dkP p x y) (b + c)
  d1 : Sm (dk1 p x y) (b + c)
  a1 : Sm (dk1 p x y + rn p wNear (spH p x * spL p y)) (b + c)
  d2 : Sm (dk2 p x y) (b + c)
  a2 : Sm (dk2 p x y + rn p wNear (spL p x * spH p y)) (b + c)
  d3 : Sm (dk3 p x y) (b + c)
  a3 : Sm (dk3 p x y + rn p wNear (spL p x * spL p y)) (b + c)
theorem dkSm {p : Nat} {x y b c : Int} (hp : 1 ≤ p) (hp2 : p ≤ 4000) (hx : Sk 100000 x b) (hy : Sk 100000 y c) (h1 : -1000000 ≤ b + c) (h2 : b + c ≤ 1000000) : DkSm p x y b c := by
  have sx := spSk hp hp2 hx
  have sy := spSk hp hp2 hy
  have mk : ∀ {u v : Int}, Sk 102010 u b → Sk 102010 v c → Sk 204020 (u * v) (b + c) := fun hu hv => hu.mul hv h1 h2
  have xy := mk (hx.mono (by omega)) (hy.mono (by omega))
  have hh := mk (sx.h.mono (by omega)) (sy.h.mono (by omega))
  have hl := mk (sx.h.mono (by omega)) sy.l
  have lh := mk sx.l (sy.h.mono (by omega))
  have ll := mk sx.l sy.l
  have rhl := hl.rn (w := wNear) hp
  have rlh := lh.rn (w := wNear) hp
  have rll := ll.rn (w := wNear) hp
  have pP : Sk 204021 (dkP p x y) (b + c) := xy.rn hp
  have pF : Sk 204021 (dkF p x y) (b + c) := hh.rn hp
  have fp : Sk 204022 (dkF p x y - dkP p x y) (b + c) := pF.sub pP
  have d1 : Sk 204023 (dk1 p x y) (b + c) := fp.rn hp
  have a1 := d1.add (rhl.mono (j := 204023) (by omega))
  have d2 : Sk 204025 (dk2 p x y) (b + c) := a1.rn hp
  have a2 := d2.add (rlh.mono (j := 204025) (by omega))
  have d3 : Sk 204027 (dk3 p x y) (b + c) := a2.rn hp
  have a3 := d3.add (rll.mono (j := 204027) (by omega))
  exact ⟨xy.sm (by omega), hh.sm (by omega), hl.sm (by omega), lh.sm (by omega), ll.sm (by omega), rhl.sm (by omega), rlh.sm (by omega), rll.sm (by omega), pP.sm (by omega), pF.sm (by omega), fp.sm (by omega), d1.sm (by omega), a1.sm (by omega), d2.sm (by omega), a2.sm (by omega), d3.sm (by omega), a3.sm (by omega)⟩
theorem wNear_ : (⟨#[110, 101, 97, 114]⟩ : Str) = wNear := rfl
theorem wOdd_ : (⟨#[111, 100, 100]⟩ : Str) = wOdd := rfl
theorem wDown_ : (⟨#[100, 111, 119, 110]⟩ : Str) = wDown := rfl
theorem wUp_ : (⟨#[117, 112]⟩ : Str) = wUp := rfl
theorem wZero_ : (⟨#[122, 101, 114, 111]⟩ : Str) = wZero := rfl
theorem ne_NearOdd : (wNear = wOdd) = False := eq_false (by decide)
theorem ne_NearDown : (wNear = wDown) = False := eq_false (by decide)
theorem ne_NearUp : (wNear = wUp) = False := eq_false (by decide)
theorem ne_NearZero : (wNear = wZero) = False := eq_false (by decide)
theorem ne_OddNear : (wOdd = wNear) = False := eq_false (by decide)
theorem ne_OddDown : (wOdd = wDown) = False := eq_false (by decide)
theorem ne_OddUp : (wOdd = wUp) = False := eq_false (by decide)
theorem ne_OddZero : (wOdd = wZero) = False := eq_false (by decide)
theorem ne_DownNear : (wDown = wNear) = False := eq_false (by decide)
theorem ne_DownOdd : (wDown = wOdd) = False := eq_false (by decide)
theorem ne_DownUp : (wDown = wUp) = False := eq_false (by decide)
theorem ne_DownZero : (wDown = wZero) = False := eq_false (by decide)
theorem ne_UpNear : (wUp = wNear) = False := eq_false (by decide)
theorem ne_UpOdd : (wUp = wOdd) = False := eq_false (by decide)
theorem ne_UpDown : (wUp = wDown) = False := eq_false (by decide)
theorem ne_UpZero : (wUp = wZero) = False := eq_false (by decide)
theorem ne_ZeroNear : (wZero = wNear) = False := eq_false (by decide)
theorem ne_ZeroOdd : (wZero = wOdd) = False := eq_false (by decide)
theorem ne_ZeroDown : (wZero = wDown) = False := eq_false (by decide)
theorem ne_ZeroUp : (wZero = wUp) = False := eq_false (by decide)
theorem ok_or {k b : Bool} {T : Sto} : (if k = true then (Re.ok (W.v (.bl true)) T : Re W) else .ok (.v (.bl b)) T) = .ok (.v (.bl (k || b))) T := by cases k <;> rfl
theorem ok_and {k b : Bool} {T : Sto} : (if k = true then (Re.ok (W.v (.bl b)) T : Re W) else .ok (.v (.bl false)) T) = .ok (.v (.bl (k && b))) T := by cases k <;> rfl
theorem ok_int {k : Bool} {a b : Int} {T : Sto} : (if k = true then (Re.ok (W.v (.int a)) T : Re W) else .ok (.v (.int b)) T) = .ok (.v (.int (if k = true then a else b))) T := by cases k <;> rfl
/-- the five words -/
def isWord (w : Str) : Prop := w = wDown ∨ w = wNear ∨ w = wOdd ∨ w = wUp ∨ w = wZero
theorem up_near {q t : Int} {b : Bool} : upW wNear q t b = (decide (0 < t) || (decide (t = 0) && decide (q % 2 = 1))) := by
  unfold upW
  rw [if_pos rfl]
theorem up_odd {q t : Int} {b : Bool} : upW wOdd q t b = decide (q % 2 = 0) := by
  unfold upW
  rw [if_neg (by decide), if_pos rfl]
theorem up_up {q t m : Int} (h : m ≠ 0) : upW wUp q t (decide (m < 0)) = decide (0 < m) := by
  unfold upW
  rw [if_neg (by decide), if_neg (by decide)]
  by_cases h1 : m < 0
  · rw [decide_eq_true h1, if_pos rfl, decide_eq_false (by decide), decide_eq_false (by omega)]
  · rw [decide_eq_false h1, if_neg (by decide), decide_eq_true rfl, decide_eq_true (by omega)]
theorem up_down {q t m : Int} : upW wDown q t (decide (m < 0)) = decide (m < 0) := by
  unfold upW
  rw [if_neg (by decide), if_neg (by decide)]
  by_cases h1 : m < 0
  · rw [decide_eq_true h1, if_pos rfl, decide_eq_true rfl]
  · rw [decide_eq_false h1, if_neg (by decide), decide_eq_false (by decide)]
theorem up_zero {q t : Int} {b : Bool} : upW wZero q t b = false := by
  unfold upW
  rw [if_neg (by decide), if_neg (by decide)]
  cases b <;> decide
theorem cut_N {p : Nat} {w : Str} {x b : Int} (hp : 1 ≤ p) : N (rn p w (num x b).1) (num x b).2 = N (rn p w x) b := by
  show pr _ = pr _
  congr 1
  by_cases h : x = 0
  · subst h
    show num (rn p w 0) 0 = num (rn p w 0) b
    rw [rn_zero]
    rfl
  · obtain ⟨k, m, ho, e1, e2⟩ := num_parts (b := b) h
    rw [e2, e1, rn_scale hp, num_shift]
theorem cut_mul {p : Nat} {w : Str} {x y b c : Int} (hp : 1 ≤ p) : N (rn p w ((num x b).1 * (num y c).1)) ((num x b).2 + (num y c).2) = N (rn p w (x * y)) (b + c) := by
  show pr _ = pr _
  congr 1
  by_cases h : x = 0
  · subst h
    show num (rn p w (0 * _)) _ = num (rn p w (0 * y)) _
    rw [Int.zero_mul, Int.zero_mul, rn_zero]
    rfl
  by_cases h' : y = 0
  · subst h'
    show num (rn p w (_ * 0)) _ = num (rn p w (x * 0)) _
    rw [Int.mul_zero, Int.mul_zero, rn_zero]
    rfl
  · obtain ⟨k, m, ho, e1, e2⟩ := num_parts (b := b) h
    obtain ⟨k', m', ho', e1', e2'⟩ := num_parts (b := c) h'
    have e3 : x * y = (m * m') * 2 ^ (k + k') := by
      rw [e1, e1', Int.pow_add]
      simp [Int.mul_assoc, Int.mul_left_comm, Int.mul_comm]
    rw [e2, e2', e3, rn_scale hp, num_shift]
    show num (rn p w (m * m')) (b + (k : Int) + (c + (k' : Int))) = _
    congr 1
    omega
theorem prod_told {x y b c : Int} (hx : x ≠ 0) (hy : y ≠ 0) : ((num x b).1 * (num y c).1, (num x b).2 + (num y c).2) = num (x * y) (b + c) := by
  obtain ⟨k, m, ho, e1, e2⟩ := num_parts (b := b) hx
  obtain ⟨k', m', ho', e1', e2'⟩ := num_parts (b := c) hy
  rw [← num_mul, e2, e2']
  have h : (m * m') % 2 = 1 := by
    rw [Int.mul_emod, ho, ho']
    rfl
  exact (num_odd1 h).symm
end Ev
namespace Ev
open PySem
/-! ### rounding: what stays, how far, multiples -/
theorem bits_one : bits (1 : Int) = 1 := by decide
/-- a multiple of a power of two with few figures stays -/
theorem rn_exact {p : Nat} {w : Str} {q : Int} {j : Nat} (hp : 1 ≤ p) (h1 : -(2 ^ p) ≤ q) (h2 : q ≤ 2 ^ p) : rn p w (q * 2 ^ j) = q * 2 ^ j := by
  rw [rn_scale hp]
  congr 1
  have e : (2 : Int) ^ p = ((2 ^ p : Nat) : Int) := pow_cast.symm
  have r1 : rn p w 1 = 1 := rn_id (by rw [bits_one]; exact hp)
  have r2 : rn p w (-1) = -1 := rn_id (by rw [bits_neg, bits_one]; exact hp)
  by_cases h3 : q = 2 ^ p
  · have := rn_scale (p := p) (w := w) (n := 1) (k := p) hp
    rw [r1, Int.one_mul] at this
    rw [h3, this]
  · by_cases h4 : q = -(2 ^ p)
    · have := rn_scale (p := p) (w := w) (n := -1) (k := p) hp
      rw [r2, Int.neg_mul, Int.one_mul] at this
      rw [h4, this]
    · refine rn_id ?_
      rw [bits_le]
      omega
theorem rn_exact0 {p : Nat} {w : Str} {q : Int} (hp : 1 ≤ p) (h1 : -(2 ^ p) ≤ q) (h2 : q ≤ 2 ^ p) : rn p w q = q := by
  have := rn_exact (w := w) (j := 0) hp h1 h2
  rw [Int.pow_zero, Int.mul_one] at this
  exact this
theorem rn_neg {p : Nat} {n : Int} : rn p wNear (-n) = -rn p wNear n := by
  by_cases h0 : n = 0
  · subst h0
    rfl
  by_cases h : bits n ≤ p
  · rw [rn_id (by rw [bits_neg]; exact h), rn_id h]
  · have hc : cutK p (-n) = cutK p n := by unfold cutK; rw [bits_neg]
    have ha : (if -n < 0 then - -n else -n) = (if n < 0 then -n else n) := by split <;> split <;> omega
    have hq : rnQ p wNear (-n) = rnQ p wNear n := by
      unfold rnQ
      simp only [up_near]
      rw [ha, hc]
    rw [rn_big (by rw [bits_neg]; omega), rn_big (by omega), hc, ← Int.neg_mul]
    congr 1
    unfold rnq
    rw [hq]
    split <;> split <;> omega
/-- n's distance from the rounded one -/
theorem rn_err {p : Nat} {n : Int} (h : p < bits n) : 2 * (rn p wNear n - n) ≤ 2 ^ cutK p n ∧ -(2 ^ cutK p n) ≤ 2 * (rn p wNear n - n) := by
  have hpk := pow_pos2 (cutK p n)
  have hdiv := Int.emod_add_mul_ediv (if n < 0 then -n else n) (2 ^ cutK p n)
  have hR0 := Int.emod_lt_of_pos (if n < 0 then -n else n) hpk
  have hR1 := Int.emod_nonneg (if n < 0 then -n else n) (show (2 : Int) ^ cutK p n ≠ 0 by omega)
  rw [rn_big h]
  have hq : rnQ p wNear n = (if 0 < (if n < 0 then -n else n) % 2 ^ cutK p n ∧ upW wNear ((if n < 0 then -n else n) / 2 ^ cutK p n) (2 * ((if n < 0 then -n else n) % 2 ^ cutK p n) - 2 ^ cutK p n) (decide (n < 0)) = true then (if n < 0 then -n else n) / 2 ^ cutK p n + 1 else (if n < 0 then -n else n) / 2 ^ cutK p n) := rfl
  rw [up_near] at hq
  unfold rnq
  rw [hq]
  generalize hA : (if n < 0 then -n else n) = A at *
  generalize (2 : Int) ^ cutK p n = D at *
  generalize A / D = Q at *
  generalize A % D = R at *
  have e1 : (Q + 1) * D = Q * D + D := by rw [Int.add_mul, Int.one_mul]
  have e2 : D * Q = Q * D := Int.mul_comm _ _
  have e3 : -(Q + 1) * D = -(Q * D) - D := by rw [Int.neg_mul, e1]; omega
  have e4 : -Q * D = -(Q * D) := Int.neg_mul _ _
  rw [e2] at hdiv
  by_cases hn : 0 < n
  · have hAn : A = n := by rw [← hA, if_neg (by omega)]
    rw [if_pos hn]
    split
    · rename_i hc
      simp only [Bool.or_eq_true, Bool.and_eq_true, decide_eq_true_eq] at hc
      rw [e1]
      omega
    · rename_i hc
      simp only [Bool.or_eq_true, Bool.and_eq_true, decide_eq_true_eq] at hc
      omega
  · have hAn : A = -n := by
      rw [← hA]
      split <;> omega
    rw [if_neg hn]
    split
    · rename_i hc
      simp only [Bool.or_eq_true, Bool.and_eq_true, decide_eq_true_eq] at hc
      rw [e3]
      omega
    · rename_i hc
      simp only [Bool.or_eq_true, Bool.and_eq_true, decide_eq_true_eq] at hc
      rw [e4]
      omega
theorem pow_mono {i j : Nat} (h : i ≤ j) : (2 : Int) ^ i ≤ 2 ^ j := by
  have := Nat.pow_le_pow_right (n := 2) (by omega) h
  have e1 : (2 : Int) ^ i = ((2 ^ i : Nat) : Int) := pow_cast.symm
  have e2 : (2 : Int) ^ j = ((2 ^ j : Nat) : Int) := pow_cast.symm
  omega
theorem near_err {p j : Nat} {n : Int} (hp : 1 ≤ p) (h1 : -(2 ^ (p + j)) ≤ n) (h2 : n ≤ 2 ^ (p + j)) : 2 * (rn p wNear n - n) ≤ 2 ^ j ∧ -(2 ^ j) ≤ 2 * (rn p wNear n - n) := by
  have hj := pow_pos2 j
  by_cases hb : bits n ≤ p
  · rw [rn_id hb]
    omega
  have e : (2 : Int) ^ (p + j) = ((2 ^ (p + j) : Nat) : Int) := pow_cast.symm
  by_cases h3 : n = 2 ^ (p + j)
  · have hx : rn p wNear n = n := by
      rw [h3, Int.pow_add]
      exact rn_exact hp (by have := pow_pos2 p; omega) (Int.le_refl _)
    rw [hx]
    omega
  by_cases h4 : n = -(2 ^ (p + j))
  · have hx : rn p wNear n = n := by
      rw [h4, Int.pow_add, ← Int.neg_mul]
      exact rn_exact hp (Int.le_refl _) (by have := pow_pos2 p; omega)
    rw [hx]
    omega
  have hbn : bits n ≤ p + j := by
    rw [bits_le]
    omega
  obtain ⟨g1, g2⟩ := rn_err (show p < bits n by omega)
  have := pow_mono (show cutK p n ≤ j by unfold cutK; omega)
  omega
/-- a great number is rounded to a multiple -/
theorem rn_mult {p j : Nat} {w : Str} {n : Int} (h : (2 : Int) ^ (p + j - 1) ≤ n ∨ n ≤ -(2 ^ (p + j - 1))) (hp : 1 ≤ p) : ∃ q, rn p w n = q * 2 ^ j := by
  have e : (2 : Int) ^ (p + j - 1) = ((2 ^ (p + j - 1) : Nat) : Int) := pow_cast.symm
  have hb : p + j - 1 < bits n := by
    rw [bits_lt]
    omega
  by_cases h2 : bits n ≤ p
  · have : j = 0 := by omega
    subst this
    exact ⟨rn p w n, by rw [Int.pow_zero, Int.mul_one]⟩
  · rw [rn_big (by omega)]
    refine ⟨rnq p w n * 2 ^ (cutK p n - j), ?_⟩
    rw [Int.mul_assoc, ← Int.pow_add]
    congr 2
    unfold cutK
    omega
end Ev
namespace Ev
open PySem
/-! ### Veltkamp's split -/
theorem hOf_le {p : Nat} (hp : 2 ≤ p) : 1 ≤ hOf p ∧ hOf p + 1 ≤ p ∧ p ≤ 2 * hOf p ∧ 2 * hOf p ≤ p + 1 := by
  unfold hOf
  omega
/-- what a split tells -/
structure Split (p : Nat) (X : Int) : Prop where
  sum : spH p X + spL p X = X
  lo1 : 2 * spL p X ≤ 2 ^ hOf p
  lo2 : -(2 ^ hOf p) ≤ 2 * spL p X
  mul : ∃ q, spH p X = q * 2 ^ hOf p ∧ q ≤ 2 ^ (p - hOf p) ∧ -(2 ^ (p - hOf p)) ≤ q
theorem split_pos {p : Nat} {X : Int} (hp : 2 ≤ p) (h1 : (2 : Int) ^ (p - 1) ≤ X) (h2 : X < 2 ^ p) : Split p X := by
  obtain ⟨a1, a2, a3, a4⟩ := hOf_le hp
  have hH := pow_pos2 (hOf p)
  have hW := pow_pos2 p
  have eP : (2 : Int) ^ p = 2 * 2 ^ (p - 1) := by
    obtain ⟨k, hk⟩ : ∃ k, p = k + 1 := ⟨p - 1, by omega⟩
    rw [hk, Int.pow_succ, Nat.add_sub_cancel, Int.mul_comm]
  have ePH : (2 : Int) ^ (p + hOf p) = 2 ^ p * 2 ^ hOf p := Int.pow_add _ _ _
  have eq : (2 : Int) ^ p = 2 ^ (p - hOf p) * 2 ^ hOf p := by
    rw [← Int.pow_add, Nat.sub_add_cancel (by omega)]
  -- the first product
  have n1 : X * (2 ^ hOf p + 1) = X * 2 ^ hOf p + X := by rw [Int.mul_add, Int.mul_one]
  have b1 : X * 2 ^ hOf p ≤ 2 ^ (p + hOf p) - 2 ^ hOf p := by
    have := Int.mul_le_mul_of_nonneg_right (show X ≤ 2 ^ p - 1 by omega) (Int.le_of_lt hH)
    rw [Int.sub_mul, Int.one_mul, ← ePH] at this
    exact this
  have eH1 : (2 : Int) ^ (hOf p + 1) = 2 * 2 ^ hOf p := by rw [Int.pow_succ, Int.mul_comm]
  have hpH : (2 : Int) ^ p ≤ 2 ^ (p + hOf p) := pow_mono (by omega)
  have eS : (2 : Int) ^ (p + (hOf p + 1)) = 2 * 2 ^ (p + hOf p) := by
    rw [← Nat.add_assoc, Int.pow_succ, Int.mul_comm]
  have c1 := near_err (p := p) (j := hOf p + 1) (n := X * (2 ^ hOf p + 1)) (by omega) (by rw [n1, eS]; have := Int.mul_nonneg (show (0 : Int) ≤ X by have := pow_pos2 (p - 1); omega) (Int.le_of_lt hH); omega) (by rw [n1, eS]; omega)
  have lowX : (2 : Int) ^ (p + hOf p - 1) ≤ X * 2 ^ hOf p := by
    have := Int.mul_le_mul_of_nonneg_right h1 (Int.le_of_lt hH)
    rw [← Int.pow_add] at this
    have e : p - 1 + hOf p = p + hOf p - 1 := by omega
    rw [e] at this
    exact this
  have hX0 : (0 : Int) < X := by have := pow_pos2 (p - 1); omega
  obtain ⟨qc, hqc⟩ := rn_mult (p := p) (j := hOf p) (w := wNear) (n := X * (2 ^ hOf p + 1)) (.inl (by rw [n1]; omega)) (by omega)
  change 2 * (spC p X - X * (2 ^ hOf p + 1)) ≤ 2 ^ (hOf p + 1) ∧ -(2 ^ (hOf p + 1)) ≤ 2 * (spC p X - X * (2 ^ hOf p + 1)) at c1
  change spC p X = qc * 2 ^ hOf p at hqc
  rw [n1, eH1] at c1
  -- the lower end
  have low2 : (2 : Int) ^ (p + hOf p - 1) ≤ spC p X - X := by
    by_cases hx : X = 2 ^ (p - 1)
    · have hc : spC p X = X * (2 ^ hOf p + 1) := by
        unfold spC
        rw [hx, Int.mul_comm]
        have hle : (2 : Int) ^ (hOf p + 1) ≤ 2 ^ p := pow_mono a2
        exact rn_exact (by omega) (by omega) (by omega)
      rw [hc, n1]
      omega
    · have := Int.mul_le_mul_of_nonneg_right (show (2 : Int) ^ (p - 1) + 1 ≤ X by omega) (Int.le_of_lt hH)
      rw [Int.add_mul, Int.one_mul, ← Int.pow_add] at this
      have e : p - 1 + hOf p = p + hOf p - 1 := by omega
      rw [e] at this
      omega
  have c2 := near_err (p := p) (j := hOf p) (n := spC p X - X) (by omega) (by have := pow_pos2 (p + hOf p); have := pow_pos2 (p + hOf p - 1); omega) (by omega)
  obtain ⟨qd, hqd⟩ := rn_mult (p := p) (j := hOf p) (w := wNear) (n := spC p X - X) (.inl low2) (by omega)
  change 2 * (spD p X - (spC p X - X)) ≤ 2 ^ hOf p ∧ -(2 ^ hOf p) ≤ 2 * (spD p X - (spC p X - X)) at c2
  change spD p X = qd * 2 ^ hOf p at hqd
  -- the high part
  have e3 : spC p X - spD p X = (qc - qd) * 2 ^ hOf p := by rw [hqc, hqd, Int.sub_mul]
  have hHp : (2 : Int) ^ hOf p ≤ 2 ^ p := pow_mono (by omega)
  have hq1 : qc - qd ≤ 2 ^ (p - hOf p) := by
    refine Int.le_of_lt_add_one (Int.lt_of_mul_lt_mul_right (a := 2 ^ hOf p) ?_ (Int.le_of_lt hH))
    rw [← e3, Int.add_mul, Int.one_mul, ← eq]
    omega
  have hq2 : -(2 ^ (p - hOf p)) ≤ qc - qd := by
    refine Int.le_of_mul_le_mul_right (a := 2 ^ hOf p) ?_ hH
    rw [← e3, Int.neg_mul, ← eq]
    omega
  have hpp : (2 : Int) ^ (p - hOf p) ≤ 2 ^ p := pow_mono (by omega)
  have e4 : spH p X = spC p X - spD p X := by
    unfold spH
    rw [e3]
    exact rn_exact (by omega) (by omega) (by omega)
  have e5 : spL p X = X - spH p X := by
    unfold spL
    exact rn_exact0 (by omega) (by rw [e4]; omega) (by rw [e4]; omega)
  refine ⟨by omega, by omega, by omega, qc - qd, by rw [e4, e3], hq1, hq2⟩
theorem sp_neg {p : Nat} {X : Int} : spC p (-X) = -spC p X ∧ spD p (-X) = -spD p X ∧ spH p (-X) = -spH p X ∧ spL p (-X) = -spL p X := by
  have c : spC p (-X) = -spC p X := by
    unfold spC
    rw [Int.neg_mul, rn_neg]
  have d : spD p (-X) = -spD p X := by
    unfold spD
    rw [c, ← rn_neg]
    congr 1
    omega
  have h : spH p (-X) = -spH p X := by
    unfold spH
    rw [c, d, ← rn_neg]
    congr 1
    omega
  refine ⟨c, d, h, ?_⟩
  unfold spL
  rw [h, ← rn_neg]
  congr 1
  omega
theorem sp_scale {p k : Nat} {X : Int} (hp : 1 ≤ p) : spC p (X * 2 ^ k) = spC p X * 2 ^ k ∧ spD p (X * 2 ^ k) = spD p X * 2 ^ k ∧ spH p (X * 2 ^ k) = spH p X * 2 ^ k ∧ spL p (X * 2 ^ k) = spL p X * 2 ^ k := by
  have c : spC p (X * 2 ^ k) = spC p X * 2 ^ k := by
    unfold spC
    rw [Int.mul_assoc, Int.mul_comm (2 ^ k), ← Int.mul_assoc, rn_scale hp]
  have d : spD p (X * 2 ^ k) = spD p X * 2 ^ k := by
    unfold spD
    rw [c, ← Int.sub_mul, rn_scale hp]
  have h : spH p (X * 2 ^ k) = spH p X * 2 ^ k := by
    unfold spH
    rw [c, d, ← Int.sub_mul, rn_scale hp]
  refine ⟨c, d, h, ?_⟩
  unfold spL
  rw [h, ← Int.sub_mul, rn_scale hp]
end Ev
namespace Ev
open PySem
/-! ### Dekker's product -/
theorem mul_bd {u v a b : Int} (h1 : -a ≤ u) (h2 : u ≤ a) (h3 : -b ≤ v) (h4 : v ≤ b) : -(a * b) ≤ u * v ∧ u * v ≤ a * b := by
  have hu : u.natAbs ≤ a.natAbs := by omega
  have hv : v.natAbs ≤ b.natAbs := by omega
  have := Nat.mul_le_mul hu hv
  rw [← Int.natAbs_mul, ← Int.natAbs_mul] at this
  have hab : 0 ≤ a * b := Int.mul_nonneg (by omega) (by omega)
  omega
theorem split_all {p : Nat} {X : Int} (hp : 2 ≤ p) (h : bits X = p) : Split p X := by
  have e1 : (2 : Int) ^ (p - 1) = ((2 ^ (p - 1) : Nat) : Int) := pow_cast.symm
  have e2 : (2 : Int) ^ p = ((2 ^ p : Nat) : Int) := pow_cast.symm
  have g1 : 2 ^ (p - 1) ≤ X.natAbs := bits_lt.mp (by omega)
  have g2 : X.natAbs < 2 ^ p := bits_le.mp (by omega)
  by_cases hx : 0 ≤ X
  · exact split_pos hp (by omega) (by omega)
  · have s := split_pos (X := -X) hp (by omega) (by omega)
    obtain ⟨_, _, n3, n4⟩ := @sp_neg p X
    obtain ⟨q, q1, q2, q3⟩ := s.mul
    have s1 := s.sum
    have s2 := s.lo1
    have s3 := s.lo2
    rw [n3] at q1 s1
    rw [n4] at s1 s2 s3
    exact ⟨by omega, by omega, by omega, -q, by rw [Int.neg_mul, ← q1]; omega, by omega, by omega⟩
theorem cancel_bd {q a d : Int} (hd : 0 < d) (h1 : -(a * d) ≤ q * d) (h2 : q * d ≤ a * d) : -a ≤ q ∧ q ≤ a := by
  rw [← Int.neg_mul] at h1
  exact ⟨Int.le_of_mul_le_mul_right h1 hd, Int.le_of_mul_le_mul_right h2 hd⟩
theorem dekker_big {p : Nat} {X Y : Int} (hp : 4 ≤ p) (hX : bits X = p) (hY : bits Y = p) : dk4 p X Y = X * Y - dkP p X Y := by
  obtain ⟨a1, a2, a3, a4⟩ := hOf_le (show 2 ≤ p by omega)
  have sX := split_all (by omega) hX
  have sY := split_all (by omega) hY
  obtain ⟨qx, x1, x2, x3⟩ := sX.mul
  obtain ⟨qy, y1, y2, y3⟩ := sY.mul
  have eX := sX.sum
  have eY := sY.sum
  have lx1 := sX.lo1
  have lx2 := sX.lo2
  have ly1 := sY.lo1
  have ly2 := sY.lo2
  have hW := pow_pos2 p
  have hH := pow_pos2 (hOf p)
  have e2 : (2 : Int) ^ p = ((2 ^ p : Nat) : Int) := pow_cast.symm
  have g2 : X.natAbs < 2 ^ p := bits_le.mp (by omega)
  have g2' : Y.natAbs < 2 ^ p := bits_le.mp (by omega)
  have g1 : 2 ^ (p - 1) ≤ X.natAbs := bits_lt.mp (by omega)
  have g1' : 2 ^ (p - 1) ≤ Y.natAbs := bits_lt.mp (by omega)
  have eqp : (2 : Int) ^ p = 2 ^ (p - hOf p) * 2 ^ hOf p := by
    rw [← Int.pow_add, Nat.sub_add_cancel (by omega)]
  have hHp : (2 : Int) ^ hOf p ≤ 2 ^ p := pow_mono (by omega)
  -- the product
  have bXY := mul_bd (u := X) (v := Y) (a := 2 ^ p) (b := 2 ^ p) (by omega) (by omega) (by omega) (by omega)
  rw [← Int.pow_add] at bXY
  have cP := near_err (p := p) (j := p) (n := X * Y) (by omega) bXY.1 bXY.2
  have mP : ∃ q, dkP p X Y = q * 2 ^ (p - 1) := by
    refine rn_mult ?_ (by omega)
    have h := Nat.mul_le_mul g1 g1'
    rw [← Int.natAbs_mul, ← Nat.pow_add] at h
    have e : p - 1 + (p - 1) = p + (p - 1) - 1 := by omega
    rw [e] at h
    have e3 : (2 : Int) ^ (p + (p - 1) - 1) = ((2 ^ (p + (p - 1) - 1) : Nat) : Int) := pow_cast.symm
    omega
  change 2 * (dkP p X Y - X * Y) ≤ 2 ^ p ∧ -(2 ^ p) ≤ 2 * (dkP p X Y - X * Y) at cP
  obtain ⟨qP, hqP⟩ := mP
  -- the parts' products
  have bqq := mul_bd x3 x2 y3 y2
  have hqq : (2 : Int) ^ (p - hOf p) * 2 ^ (p - hOf p) ≤ 2 ^ p := by
    rw [← Int.pow_add]
    exact pow_mono (by omega)
  have eF : spH p X * spH p Y = (qx * qy) * 2 ^ (hOf p + hOf p) := by
    rw [x1, y1, Int.pow_add]
    simp [Int.mul_assoc, Int.mul_left_comm, Int.mul_comm]
  have F : dkF p X Y = spH p X * spH p Y := by
    unfold dkF
    rw [eF]
    exact rn_exact (by omega) (by omega) (by omega)
  have bqly := mul_bd (v := spL p Y) (b := 2 ^ hOf p) x3 x2 (by omega) (by omega)
  rw [← eqp] at bqly
  have eHL : spH p X * spL p Y = (qx * spL p Y) * 2 ^ hOf p := by
    rw [x1]
    simp [Int.mul_assoc, Int.mul_left_comm, Int.mul_comm]
  have HL : rn p wNear (spH p X * spL p Y) = spH p X * spL p Y := by
    rw [eHL]
    exact rn_exact (by omega) (by omega) (by omega)
  have bqlx := mul_bd (v := spL p X) (b := 2 ^ hOf p) y3 y2 (by omega) (by omega)
  rw [← eqp] at bqlx
  have eLH : spL p X * spH p Y = (qy * spL p X) * 2 ^ hOf p := by
    rw [y1]
    simp [Int.mul_assoc, Int.mul_left_comm, Int.mul_comm]
  have LH : rn p wNear (spL p X * spH p Y) = spL p X * spH p Y := by
    rw [eLH]
    exact rn_exact (by omega) (by omega) (by omega)
  have bll := mul_bd (u := 2 * spL p X) (v := 2 * spL p Y) (a := 2 ^ hOf p) (b := 2 ^ hOf p) (by omega) (by omega) (by omega) (by omega)
  have hll : (2 : Int) ^ hOf p * 2 ^ hOf p ≤ 2 * 2 ^ p := by
    rw [← Int.pow_add]
    have := pow_mono (show hOf p + hOf p ≤ p + 1 by omega)
    rw [Int.pow_succ] at this
    omega
  have e4 : (2 * spL p X) * (2 * spL p Y) = 4 * (spL p X * spL p Y) := by
    rw [Int.mul_assoc, Int.mul_left_comm (spL p X), ← Int.mul_assoc]
    rfl
  rw [e4] at bll
  have LL : rn p wNear (spL p X * spL p Y) = spL p X * spL p Y := rn_exact0 (by omega) (by omega) (by omega)
  -- sizes of the cross terms
  have bHX : -(2 ^ p) ≤ spH p X ∧ spH p X ≤ 2 ^ p := by
    rw [x1, eqp]
    have := mul_bd (v := 2 ^ hOf p) (b := 2 ^ hOf p) x3 x2 (by omega) (by omega)
    omega
  have c1 := mul_bd (v := 2 * spL p Y) (b := 2 ^ hOf p) bHX.1 bHX.2 (by omega) (by omega)
  have c2 := mul_bd (u := Y) (v := 2 * spL p X) (a := 2 ^ p) (b := 2 ^ hOf p) (by omega) (by omega) (by omega) (by omega)
  have c1e : spH p X * (2 * spL p Y) = 2 * (spH p X * spL p Y) := by rw [Int.mul_left_comm]
  have c2e : Y * (2 * spL p X) = 2 * (spL p X * Y) := by rw [Int.mul_left_comm, Int.mul_comm Y]
  rw [c1e] at c1
  rw [c2e] at c2
  -- the product by its parts
  have p1 : X * Y = spH p X * spH p Y + spH p X * spL p Y + spL p X * Y := by
    have : X * Y = (spH p X + spL p X) * Y := by rw [eX]
    rw [this, Int.add_mul]
    have h2 : spH p X * Y = spH p X * (spH p Y + spL p Y) := by rw [eY]
    rw [h2, Int.mul_add]
  have p2 : spL p X * Y = spL p X * spH p Y + spL p X * spL p Y := by
    have h2 : spL p X * Y = spL p X * (spH p Y + spL p Y) := by rw [eY]
    rw [h2, Int.mul_add]
  have hs : (2 : Int) ^ p * 2 ^ hOf p * 2 * 2 ≤ 2 ^ p * 2 ^ (p - 1) * 2 := by
    rw [← Int.pow_add, ← Int.pow_add, ← Int.pow_succ, ← Int.pow_succ, ← Int.pow_succ]
    exact pow_mono (by omega)
  have hs2 : (2 : Int) ^ p ≤ 2 ^ p * 2 ^ hOf p := by
    rw [← Int.pow_add]
    exact pow_mono (by omega)
  have hs3 : (2 : Int) ^ p * 2 ≤ 2 ^ p * 2 ^ hOf p := by
    rw [← Int.pow_add, ← Int.pow_succ]
    exact pow_mono (by omega)
  have eh : (2 : Int) ^ (hOf p + hOf p) = 2 ^ (hOf p + hOf p - (p - 1)) * 2 ^ (p - 1) := by
    rw [← Int.pow_add, Nat.sub_add_cancel (by omega)]
  have em : (2 : Int) ^ (p - 1) = 2 ^ (p - 1 - hOf p) * 2 ^ hOf p := by
    rw [← Int.pow_add, Nat.sub_add_cancel (by omega)]
  have m1 : dkF p X Y - dkP p X Y = (qx * qy * 2 ^ (hOf p + hOf p - (p - 1)) - qP) * 2 ^ (p - 1) := by
    rw [F, eF, hqP, eh, Int.sub_mul, Int.mul_assoc (qx * qy)]
  have D1 : dk1 p X Y = dkF p X Y - dkP p X Y := by
    unfold dk1
    have hb := cancel_bd (q := qx * qy * 2 ^ (hOf p + hOf p - (p - 1)) - qP) (a := 2 ^ p) (pow_pos2 (p - 1)) (by rw [← m1, F]; omega) (by rw [← m1, F]; omega)
    rw [m1]
    exact rn_exact (by omega) hb.1 hb.2
  generalize hq1 : qx * qy * 2 ^ (hOf p + hOf p - (p - 1)) - qP = q1 at m1
  have m2 : dkF p X Y - dkP p X Y + spH p X * spL p Y = (q1 * 2 ^ (p - 1 - hOf p) + qx * spL p Y) * 2 ^ hOf p := by
    rw [m1, eHL, Int.add_mul, Int.mul_assoc q1, ← em]
  have D2 : dk2 p X Y = dkF p X Y - dkP p X Y + spH p X * spL p Y := by
    unfold dk2
    rw [HL, D1]
    have hb := cancel_bd (q := q1 * 2 ^ (p - 1 - hOf p) + qx * spL p Y) (a := 2 ^ p) hH (by rw [← m2, F]; omega) (by rw [← m2, F]; omega)
    rw [m2]
    exact rn_exact (by omega) hb.1 hb.2
  generalize hq2 : q1 * 2 ^ (p - 1 - hOf p) + qx * spL p Y = q2 at m2
  have m3 : dkF p X Y - dkP p X Y + spH p X * spL p Y + spL p X * spH p Y = (q2 + qy * spL p X) * 2 ^ hOf p := by
    rw [m2, eLH, Int.add_mul]
  have D3 : dk3 p X Y = dkF p X Y - dkP p X Y + spH p X * spL p Y + spL p X * spH p Y := by
    unfold dk3
    rw [LH, D2]
    have hb := cancel_bd (q := q2 + qy * spL p X) (a := 2 ^ p) hH (by rw [← m3, F]; omega) (by rw [← m3, F]; omega)
    rw [m3]
    exact rn_exact (by omega) hb.1 hb.2
  unfold dk4
  rw [LL, D3, F]
  have e5 : spH p X * spH p Y - dkP p X Y + spH p X * spL p Y + spL p X * spH p Y + spL p X * spL p Y = X * Y - dkP p X Y := by
    rw [p1, p2]
    omega
  rw [e5]
  exact rn_exact0 (by omega) (by omega) (by omega)
end Ev
namespace Ev
open PySem
theorem dk_scale {p i j : Nat} {X Y : Int} (hp : 1 ≤ p) : dkP p (X * 2 ^ i) (Y * 2 ^ j) = dkP p X Y * 2 ^ (i + j) ∧ dkF p (X * 2 ^ i) (Y * 2 ^ j) = dkF p X Y * 2 ^ (i + j) ∧ dk1 p (X * 2 ^ i) (Y * 2 ^ j) = dk1 p X Y * 2 ^ (i + j) ∧
    dk2 p (X * 2 ^ i) (Y * 2 ^ j) = dk2 p X Y * 2 ^ (i + j) ∧ dk3 p (X * 2 ^ i) (Y * 2 ^ j) = dk3 p X Y * 2 ^ (i + j) ∧ dk4 p (X * 2 ^ i) (Y * 2 ^ j) = dk4 p X Y * 2 ^ (i + j) := by
  obtain ⟨_, _, hx, lx⟩ := @sp_scale p i X hp
  obtain ⟨_, _, hy, ly⟩ := @sp_scale p j Y hp
  have mm : ∀ u v : Int, u * 2 ^ i * (v * 2 ^ j) = u * v * 2 ^ (i + j) := fun u v => by
    rw [Int.pow_add]
    simp [Int.mul_assoc, Int.mul_left_comm, Int.mul_comm]
  have h0 : dkP p (X * 2 ^ i) (Y * 2 ^ j) = dkP p X Y * 2 ^ (i + j) := by
    unfold dkP
    rw [mm, rn_scale hp]
  have h1 : dkF p (X * 2 ^ i) (Y * 2 ^ j) = dkF p X Y * 2 ^ (i + j) := by
    unfold dkF
    rw [hx, hy, mm, rn_scale hp]
  have h2 : dk1 p (X * 2 ^ i) (Y * 2 ^ j) = dk1 p X Y * 2 ^ (i + j) := by
    unfold dk1
    rw [h0, h1, ← Int.sub_mul, rn_scale hp]
  have h3 : dk2 p (X * 2 ^ i) (Y * 2 ^ j) = dk2 p X Y * 2 ^ (i + j) := by
    unfold dk2
    rw [h2, hx, ly, mm, rn_scale hp, ← Int.add_mul, rn_scale hp]
  have h4 : dk3 p (X * 2 ^ i) (Y * 2 ^ j) = dk3 p X Y * 2 ^ (i + j) := by
    unfold dk3
    rw [h3, lx, hy, mm, rn_scale hp, ← Int.add_mul, rn_scale hp]
  refine ⟨h0, h1, h2, h3, h4, ?_⟩
  unfold dk4
  rw [h4, lx, ly, mm, rn_scale hp, ← Int.add_mul, rn_scale hp]
theorem dekker_2 : ∀ X ∈ [2, 3, -2, -3], ∀ Y ∈ [2, 3, -2, -3], dk4 2 X Y = X * Y - dkP 2 X Y := by decide +kernel
theorem dekker_3 : ∀ X ∈ [4, 5, 6, 7, -4, -5, -6, -7], ∀ Y ∈ [4, 5, 6, 7, -4, -5, -6, -7], dk4 3 X Y = X * Y - dkP 3 X Y := by decide +kernel
theorem dekker_norm {p : Nat} {X Y : Int} (hp : 2 ≤ p) (hX : bits X = p) (hY : bits Y = p) : dk4 p X Y = X * Y - dkP p X Y := by
  by_cases h4 : 4 ≤ p
  · exact dekker_big h4 hX hY
  · have g2 : X.natAbs < 2 ^ p := bits_le.mp (by omega)
    have g2' : Y.natAbs < 2 ^ p := bits_le.mp (by omega)
    have g1 : 2 ^ (p - 1) ≤ X.natAbs := bits_lt.mp (by omega)
    have g1' : 2 ^ (p - 1) ≤ Y.natAbs := bits_lt.mp (by omega)
    by_cases h2 : p = 2
    · subst h2
      refine dekker_2 X ?_ Y ?_ <;> simp only [List.mem_cons, List.not_mem_nil, or_false] <;> omega
    · have h3 : p = 3 := by omega
      subst h3
      refine dekker_3 X ?_ Y ?_ <;> simp only [List.mem_cons, List.not_mem_nil, or_false] <;> omega
/-- every number of the format is one of p figures, elsewhere -/
theorem norm_of {p : Nat} {x : Int} (hx : x ≠ 0) (h : bits x ≤ p) : bits (x * 2 ^ (p - bits x)) = p := by
  rw [bits_mul_pow hx]
  omega
theorem sp_zero {p : Nat} : spH p 0 = 0 ∧ spL p 0 = 0 := by
  have c : spC p 0 = 0 := by
    unfold spC
    rw [Int.zero_mul, rn_zero]
  have d : spD p 0 = 0 := by
    unfold spD
    rw [c]
    exact rn_zero
  have h : spH p 0 = 0 := by
    unfold spH
    rw [c, d]
    exact rn_zero
  refine ⟨h, ?_⟩
  unfold spL
  rw [h]
  exact rn_zero
/-- DEKKER: the product rounded and what it lost -/
theorem dekker_all {p : Nat} {x y : Int} (hp : 2 ≤ p) (hx : bits x ≤ p) (hy : bits y ≤ p) : dk4 p x y = x * y - dkP p x y := by
  by_cases h0 : x = 0
  · subst h0
    simp only [dk4, dk3, dk2, dk1, dkF, dkP, sp_zero.1, sp_zero.2, Int.zero_mul, rn_zero, Int.add_zero, Int.sub_self]
  by_cases h1 : y = 0
  · subst h1
    simp only [dk4, dk3, dk2, dk1, dkF, dkP, sp_zero.1, sp_zero.2, Int.mul_zero, rn_zero, Int.add_zero, Int.sub_self]
  · have h := dekker_norm hp (norm_of h0 hx) (norm_of h1 hy)
    obtain ⟨s0, _, _, _, _, s4⟩ := dk_scale (p := p) (i := p - bits x) (j := p - bits y) (X := x) (Y := y) (by omega)
    rw [s0, s4] at h
    have mm : x * 2 ^ (p - bits x) * (y * 2 ^ (p - bits y)) = x * y * 2 ^ (p - bits x + (p - bits y)) := by
      rw [Int.pow_add]
      simp [Int.mul_assoc, Int.mul_left_comm, Int.mul_comm]
    rw [mm, ← Int.sub_mul] at h
    exact Int.eq_of_mul_eq_mul_right (by have := pow_pos2 (p - bits x + (p - bits y)); omega) h
/-- the figures of a multiple -/
theorem bits_told {q b : Int} {j t : Nat} (ht : 1 ≤ t) (h1 : -(2 ^ t) ≤ q) (h2 : q ≤ 2 ^ t) : bits (num (q * 2 ^ j) b).1 ≤ t := by
  rw [num_shift]
  have e : (2 : Int) ^ t = ((2 ^ t : Nat) : Int) := pow_cast.symm
  by_cases h3 : q = 2 ^ t
  · have := @num_shift 1 (b + j) t
    rw [Int.one_mul] at this
    rw [h3, this, num_odd1 (by decide)]
    show bits 1 ≤ t
    rw [bits_one]
    exact ht
  · by_cases h4 : q = -(2 ^ t)
    · have := @num_shift (-1) (b + j) t
      rw [Int.neg_mul, Int.one_mul] at this
      rw [h4, this, num_odd1 (by decide)]
      show bits (-1) ≤ t
      rw [bits_neg, bits_one]
      exact ht
    · exact (num_bd (by rw [bits_le]; omega)).1
/-- VELTKAMP: the halves -/
theorem halves {p : Nat} {x b : Int} (hp : 2 ≤ p) (hx : bits x ≤ p) : spH p x + spL p x = x ∧ bits (num (spH p x) b).1 ≤ p - hOf p ∧ bits (num (spL p x) b).1 ≤ (if 2 < p then hOf p - 1 else 1) := by
  by_cases h0 : x = 0
  · subst h0
    rw [sp_zero.1, sp_zero.2]
    exact ⟨rfl, by show bits 0 ≤ _; rw [bits_zero]; omega, by show bits 0 ≤ _; rw [bits_zero]; omega⟩
  obtain ⟨a1, a2, a3, a4⟩ := hOf_le hp
  have s := split_all hp (norm_of h0 hx)
  obtain ⟨_, _, e3, e4⟩ := sp_scale (p := p) (k := p - bits x) (X := x) (by omega)
  have hk := pow_pos2 (p - bits x)
  have es := s.sum
  rw [e3, e4, ← Int.add_mul] at es
  refine ⟨Int.eq_of_mul_eq_mul_right (by omega) es, ?_, ?_⟩
  · obtain ⟨q, q1, q2, q3⟩ := s.mul
    have := bits_told (b := b - (p - bits x : Nat)) (j := hOf p) (show 1 ≤ p - hOf p by omega) q3 q2
    rw [← q1, e3, num_shift] at this
    have e : b - ((p - bits x : Nat) : Int) + ((p - bits x : Nat) : Int) = b := by omega
    rw [e] at this
    exact this
  · have l1 := s.lo1
    have l2 := s.lo2
    have key : ∀ t : Nat, 1 ≤ t → hOf p ≤ t + 1 → bits (num (spL p x) b).1 ≤ t := fun t ht hh => by
      have hm := pow_mono hh
      rw [Int.pow_succ] at hm
      have := bits_told (q := spL p (x * 2 ^ (p - bits x))) (b := b - (p - bits x : Nat)) (j := 0) ht (by omega) (by omega)
      rw [Int.pow_zero, Int.mul_one, e4, num_shift] at this
      have e : b - ((p - bits x : Nat) : Int) + ((p - bits x : Nat) : Int) = b := by omega
      rw [e] at this
      exact this
    split
    · exact key _ (by unfold hOf; omega) (by omega)
    · exact key 1 (by omega) (by unfold hOf; omega)
end Ev
namespace Ev
open PySem
/-- data of ints, bools, texts, None and tuples of such, so deep -/
def plainD : Nat → D → Prop
  | _, .non => True
  | _, .bl _ => True
  | _, .int _ => True
  | _, .str _ => True
  | 0, _ => False
  | n + 1, .tup ds => ds.length ≤ 1000000 ∧ ∀ d, d ∈ ds → plainD n d
  | _, _ => False
theorem plain_N {n : Nat} {x b : Int} : plainD (n + 1) (N x b) := by
  show plainD (n + 1) (.tup [.int _, .int _])
  unfold plainD
  refine ⟨by simp, fun d m => ?_⟩
  simp only [List.mem_cons, List.not_mem_nil, or_false] at m
  rcases m with rfl | rfl <;> simp [plainD]
theorem b_tf : (true == false) = false := rfl
theorem b_ft : (false == true) = false := rfl
/-- what a rounding loses has few figures -/
theorem rn_loss {p : Nat} {w : Str} {n b : Int} (hp : 1 ≤ p) (h : bits n ≤ 2 * p) : bits (num (n - rn p w n) b).1 ≤ p := by
  by_cases h0 : bits n ≤ p
  · rw [rn_id h0, Int.sub_self]
    show bits 0 ≤ p
    rw [bits_zero]
    omega
  have hpk := pow_pos2 (cutK p n)
  have hdiv := Int.emod_add_mul_ediv (if n < 0 then -n else n) (2 ^ cutK p n)
  have hR0 := Int.emod_lt_of_pos (if n < 0 then -n else n) hpk
  have hR1 := Int.emod_nonneg (if n < 0 then -n else n) (show (2 : Int) ^ cutK p n ≠ 0 by omega)
  have hor := @rnQ_or p w n
  have hle := pow_mono (show cutK p n ≤ p by unfold cutK; omega)
  have key : -(2 ^ cutK p n) ≤ n - rn p w n ∧ n - rn p w n ≤ 2 ^ cutK p n := by
    rw [rn_big (by omega)]
    unfold rnq
    generalize hA : (if n < 0 then -n else n) = A at *
    generalize (2 : Int) ^ cutK p n = D at *
    generalize A / D = Q at *
    generalize A % D = R at *
    have e1 : (Q + 1) * D = Q * D + D := by rw [Int.add_mul, Int.one_mul]
    have e2 : D * Q = Q * D := Int.mul_comm _ _
    rw [e2] at hdiv
    by_cases hn : 0 < n
    · have hAn : A = n := by rw [← hA, if_neg (by omega)]
      rw [if_pos hn]
      rcases hor with e | e <;> rw [e] <;> (try rw [e1]) <;> omega
    · have hAn : A = -n := by
        rw [← hA]
        split <;> omega
      rw [if_neg hn]
      rcases hor with e | e <;> rw [e, Int.neg_mul] <;> (try rw [e1]) <;> omega
  have := bits_told (q := n - rn p w n) (b := b) (j := 0) hp (by omega) (by omega)
  rw [Int.pow_zero, Int.mul_one] at this
  exact this
end Ev
namespace Ev
open PySem
/-! ### the law's bag: cells, the rest of one, the mixed number -/
def bagT (cs : List Int) (r m : Int) : Sto := [cs.map D.int, [.loc 0, .int r, .int m]]
/-- a bag that may be drawn from -/
def isBag (T : Sto) : Prop := ∃ cs r m, T = bagT cs r m ∧ (∀ c, c ∈ cs → 0 < c) ∧ 0 ≤ r ∧ 0 ≤ m ∧ m < 2147483647
section
variable {cs : List Int} {r m : Int}
theorem bg_0 : ixW (bagT cs r m) (.v (.loc 1)) (.v (.int 0)) = some (.v (.loc 0)) := rfl
theorem bg_1 : ixW (bagT cs r m) (.v (.loc 1)) (.v (.int 1)) = some (.v (.int r)) := rfl
theorem bg_2 : ixW (bagT cs r m) (.v (.loc 1)) (.v (.int 2)) = some (.v (.int m)) := rfl
theorem pyL_ints : ∀ cs : List Int, D.py.pyL (cs.map D.int) = some (cs.map PyData.int)
  | [] => rfl
  | c :: cs => by
    rw [List.map_cons, D.py.pyL, pyL_ints cs]
    rfl
theorem lay_ints : ∀ cs : List Int, PyData.canLayAll0 (cs.map PyData.int) = true
  | [] => by simp [PyData.canLayAll0]
  | c :: cs => by
    rw [List.map_cons, PyData.canLayAll0, lay_ints cs]
    simp [PyData.canLay0]
theorem depth_ints : ∀ cs : List Int, PyData.depthAll (cs.map PyData.int) = 0
  | [] => by simp [PyData.depthAll]
  | c :: cs => by
    rw [List.map_cons, PyData.depthAll, depth_ints cs]
    simp [PyData.depth]
theorem bg_ne : cmpW .NotEq (bagT cs r m) (.v (.loc 0)) (.l true []) = some (!decide (cs = [])) := by
  have e1 : eqW (bagT cs r m) (.v (.loc 0)) (.l true []) = some (decide (cs = [])) := by
    unfold eqW
    have p1 : W.py (bagT cs r m) (.v (.loc 0)) = some (.list (cs.map PyData.int)) := by
      show (D.py.pyL (cs.map D.int)).map PyData.list = _
      rw [pyL_ints]
      rfl
    have p2 : W.py (bagT cs r m) (.l true []) = some (.list []) := rfl
    simp only [p1, p2]
    have s1 : SeqAt.shaped (.list (cs.map PyData.int)) = true := by
      unfold SeqAt.shaped
      rw [PyData.canLay0, lay_ints, PyData.depth, depth_ints]
      rfl
    have s2 : SeqAt.shaped (.list []) = true := by
      unfold SeqAt.shaped
      simp [PyData.canLay0, PyData.canLayAll0, PyData.depth, PyData.depthAll]
    rw [if_pos ⟨s1, s2⟩]
    cases cs with
    | nil => simp [PyData.eqv, PyData.eqvAll]
    | cons c cs => simp [PyData.eqv, PyData.eqvAll]
  show (eqW _ _ _).map (!·) = _
  rw [e1]
  rfl
theorem bg_set1 {v : Int} : stL (bagT cs r m) (.v (.loc 1)) = some (1, [.loc 0, .int r, .int m]) := rfl
theorem ix_31 : L2.ixN 3 1 = some 1 := rfl
theorem ix_32 : L2.ixN 3 2 = some 2 := rfl
theorem bg_w1 {v : Int} : (bagT cs r m).set 1 ([D.loc 0, .int r, .int m].set 1 (.int v)) = bagT cs v m := rfl
theorem bg_w2 {v : Int} : (bagT cs r m).set 1 ([D.loc 0, .int r, .int m].set 2 (.int v)) = bagT cs r v := rfl
theorem bg_pop {c : Call} {η : En} (h : En.get η 0 = .val (.loc 1)) (hc : cs ≠ []) : evE c (.pop (.ix (.var 0) (.cst (.int 0)))) η (bagT cs r m) = .ok (.v (.int (cs.getLast hc))) (bagT cs.dropLast r m) := by
  simp only [e_pop, e_ix, e_var, e_cst, h, Re.bind_ok, bg_0, Re.of_some]
  have e1 : (bagT cs r m)[0]? = some (cs.map D.int) := rfl
  have e2 : (cs.map D.int).getLast? = some (.int (cs.getLast hc)) := by
    rw [List.getLast?_map, List.getLast?_eq_some_getLast hc]
    rfl
  simp only [e1, e2]
  congr 1
  show [(cs.map D.int).dropLast, _] = [cs.dropLast.map D.int, _]
  rw [List.map_dropLast]
end
theorem pm_0 {a : D} : permD [0] [a] = some [a] := rfl
theorem pm_01 {a b : D} : permD [0, 1] [a, b] = some [a, b] := rfl
theorem pm_10 {a b : D} : permD [1, 0] [a, b] = some [b, a] := rfl
theorem pm_012 {a b c : D} : permD [0, 1, 2] [a, b, c] = some [a, b, c] := rfl
theorem pm_021 {a b c : D} : permD [0, 2, 1] [a, b, c] = some [a, c, b] := rfl
theorem pm_102 {a b c : D} : permD [1, 0, 2] [a, b, c] = some [b, a, c] := rfl
theorem pm_120 {a b c : D} : permD [1, 2, 0] [a, b, c] = some [b, c, a] := rfl
theorem pm_201 {a b c : D} : permD [2, 0, 1] [a, b, c] = some [c, a, b] := rfl
theorem pm_210 {a b c : D} : permD [2, 1, 0] [a, b, c] = some [c, b, a] := rfl
theorem pm_0123 {a b c d : D} : permD [0, 1, 2, 3] [a, b, c, d] = some [a, b, c, d] := rfl
theorem pm_0132 {a b c d : D} : permD [0, 1, 3, 2] [a, b, c, d] = some [a, b, d, c] := rfl
theorem pm_0213 {a b c d : D} : permD [0, 2, 1, 3] [a, b, c, d] = some [a, c, b, d] := rfl
theorem pm_0231 {a b c d : D} : permD [0, 2, 3, 1] [a, b, c, d] = some [a, c, d, b] := rfl
theorem pm_0312 {a b c d : D} : permD [0, 3, 1, 2] [a, b, c, d] = some [a, d, b, c] := rfl
theorem pm_0321 {a b c d : D} : permD [0, 3, 2, 1] [a, b, c, d] = some [a, d, c, b] := rfl
theorem pm_1023 {a b c d : D} : permD [1, 0, 2, 3] [a, b, c, d] = some [b, a, c, d] := rfl
theorem pm_1032 {a b c d : D} : permD [1, 0, 3, 2] [a, b, c, d] = some [b, a, d, c] := rfl
theorem pm_1203 {a b c d : D} : permD [1, 2, 0, 3] [a, b, c, d] = some [b, c, a, d] := rfl
theorem pm_1230 {a b c d : D} : permD [1, 2, 3, 0] [a, b, c, d] = some [b, c, d, a] := rfl
theorem pm_1302 {a b c d : D} : permD [1, 3, 0, 2] [a, b, c, d] = some [b, d, a, c] := rfl
theorem pm_1320 {a b c d : D} : permD [1, 3, 2, 0] [a, b, c, d] = some [b, d, c, a] := rfl
theorem pm_2013 {a b c d : D} : permD [2, 0, 1, 3] [a, b, c, d] = some [c, a, b, d] := rfl
theorem pm_2031 {a b c d : D} : permD [2, 0, 3, 1] [a, b, c, d] = some [c, a, d, b] := rfl
theorem pm_2103 {a b c d : D} : permD [2, 1, 0, 3] [a, b, c, d] = some [c, b, a, d] := rfl
theorem pm_2130 {a b c d : D} : permD [2, 1, 3, 0] [a, b, c, d] = some [c, b, d, a] := rfl
theorem pm_2301 {a b c d : D} : permD [2, 3, 0, 1] [a, b, c, d] = some [c, d, a, b] := rfl
theorem pm_2310 {a b c d : D} : permD [2, 3, 1, 0] [a, b, c, d] = some [c, d, b, a] := rfl
theorem pm_3012 {a b c d : D} : permD [3, 0, 1, 2] [a, b, c, d] = some [d, a, b, c] := rfl
theorem pm_3021 {a b c d : D} : permD [3, 0, 2, 1] [a, b, c, d] = some [d, a, c, b] := rfl
theorem pm_3102 {a b c d : D} : permD [3, 1, 0, 2] [a, b, c, d] = some [d, b, a, c] := rfl
theorem pm_3120 {a b c d : D} : permD [3, 1, 2, 0] [a, b, c, d] = some [d, b, c, a] := rfl
theorem pm_3201 {a b c d : D} : permD [3, 2, 0, 1] [a, b, c, d] = some [d, c, a, b] := rfl
theorem pm_3210 {a b c d : D} : permD [3, 2, 1, 0] [a, b, c, d] = some [d, c, b, a] := rfl
theorem plain_tup {n : Nat} {ds : List D} (h : ds.length ≤ 1000000) (h2 : ∀ d, d ∈ ds → plainD n d) : plainD (n + 1) (.tup ds) := ⟨h, h2⟩
theorem plain_2 {n : Nat} {x y b c : Int} : plainD (n + 2) (.tup [N x b, N y c]) := plain_tup (by simp) fun d m => by
  simp only [List.mem_cons, List.not_mem_nil, or_false] at m
  rcases m with rfl | rfl <;> exact plain_N
theorem plain_4 {n : Nat} {x y z w b : Int} : plainD (n + 2) (.tup [N x b, N y b, N z b, N w b]) := plain_tup (by simp) fun d m => by
  simp only [List.mem_cons, List.not_mem_nil, or_false] at m
  rcases m with rfl | rfl | rfl | rfl <;> exact plain_N
theorem plain_6 {n : Nat} {x y z w u v b : Int} : plainD (n + 2) (.tup [N x b, N y b, N z b, N w b, N u b, N v b]) := plain_tup (by simp) fun d m => by
  simp only [List.mem_cons, List.not_mem_nil, or_false] at m
  rcases m with rfl | rfl | rfl | rfl | rfl | rfl <;> exact plain_N
end Ev
namespace Ev
open PySem
/-- a comprehension whose work changes nothing -/
theorem lcL_fm {tg : Tg} {η : En} {f : En → Sto → Re (Option D)} {g : D → Option D} {T : Sto} : ∀ {xs : List D}, (∀ x, x ∈ xs → ∃ η1, asgT tg x η = some η1 ∧ f η1 T = .ok (g x) T) → lcL tg η f xs T = .ok (xs.filterMap g) T
  | [], _ => by rw [lcL, List.filterMap_nil]
  | x :: xs, h => by
    obtain ⟨η1, e1, e2⟩ := h x List.mem_cons_self
    have ih := lcL_fm (xs := xs) fun y m => h y (List.mem_cons_of_mem _ m)
    rw [lcL, e1]
    simp only [e2, Re.calm_ok, Re.bind_ok, ih]
    rw [List.filterMap_cons]
    cases g x <;> rfl
theorem fm_map {xs : List D} {g : D → D} : xs.filterMap (fun x => some (g x)) = xs.map g := by
  induction xs with
  | nil => rfl
  | cons x xs ih => rw [List.filterMap_cons, List.map_cons, ← ih]
/-- a for loop, by an invariant over the rest of its list -/
theorem forL_inv {tg : Tg} {f : En → Sto → SR} {J : En → Sto → Prop} : ∀ {xs : List D} {η : En} {T : Sto}, (∀ x, x ∈ xs → ∀ η T, J η T → ∃ η1, asgT tg x η = some η1 ∧ ∃ η2 T2, f η1 T = .nx η2 T2 ∧ J η2 T2) → J η T → ∃ η' T', forL tg f xs η T = .nx η' T' ∧ J η' T'
  | [], η, T, _, j => ⟨η, T, by rw [forL], j⟩
  | x :: xs, η, T, h, j => by
    obtain ⟨η1, e1, η2, T2, e2, j2⟩ := h x List.mem_cons_self η T j
    obtain ⟨η', T', e3, j3⟩ := forL_inv (xs := xs) (fun y m => h y (List.mem_cons_of_mem _ m)) j2
    refine ⟨η', T', ?_, j3⟩
    rw [for_c, e1]
    simp only [e2]
    exact e3
/-- over ints -/
def onI (g : Int → Option Int) : D → Option D
  | .int i => (g i).map .int
  | _ => none
theorem fmI {g : Int → Option Int} : ∀ {l : List Int}, (l.map D.int).filterMap (onI g) = (l.filterMap g).map D.int
  | [] => rfl
  | i :: l => by
    rw [List.map_cons, List.filterMap_cons, List.filterMap_cons, fmI]
    have e : onI g (.int i) = (g i).map .int := rfl
    rw [e]
    cases g i <;> rfl
theorem it_rvd {c : Call} {e : E} {η : En} {T : Sto} : evI c (.rvd e) η T = (evE c e η T).bind fun x T => match x.st with
    | some (.lst xs) => .ok xs.reverse T
    | some (.tup xs) => .ok xs.reverse T
    | _ => .no := by rw [evI] <;> rfl
end Ev
namespace Ev
open PySem
/-! ### what holds behind a run -/
def Re.wp0 {α : Type} (r : Re α) (Q : α → Sto → Prop) : Prop := match r with
  | .ok a T => Q a T
  | _ => False
structure Re.wp {α : Type} (r : Re α) (Q : α → Sto → Prop) : Prop where
  h : r.wp0 Q
def SR.wp0 (r : SR) (N : En → Sto → Prop) (R : D → Sto → Prop) (B C : En → Sto → Prop) : Prop := match r with
  | .nx η T => N η T
  | .rt d T => R d T
  | .bk η T => B η T
  | .ct η T => C η T
  | _ => False
structure SR.wp (r : SR) (N : En → Sto → Prop) (R : D → Sto → Prop) (B C : En → Sto → Prop) : Prop where
  h : r.wp0 N R B C
theorem wp_eq {α : Type} {r : Re α} {Q : α → Sto → Prop} : r.wp Q = r.wp0 Q := propext ⟨fun h => h.h, fun h => ⟨h⟩⟩
theorem wps_eq {r : SR} {N : En → Sto → Prop} {R : D → Sto → Prop} {B C : En → Sto → Prop} : r.wp N R B C = r.wp0 N R B C := propext ⟨fun h => h.h, fun h => ⟨h⟩⟩
theorem wp_ok {α : Type} {a : α} {T : Sto} {Q : α → Sto → Prop} : (Re.ok a T).wp Q = Q a T := wp_eq
theorem wp_bind {α β : Type} {r : Re α} {f : α → Sto → Re β} {Q : β → Sto → Prop} : (r.bind f).wp Q = r.wp fun a T => (f a T).wp Q := by
  simp only [wp_eq]
  cases r <;> rfl
theorem wp_congr {α : Type} {r r' : Re α} {Q : α → Sto → Prop} (h : r = r') : r.wp Q = r'.wp Q := by rw [h]
theorem wps_congr {r r' : SR} {N : En → Sto → Prop} {R : D → Sto → Prop} {B C : En → Sto → Prop} (h : r = r') : r.wp N R B C = r'.wp N R B C := by rw [h]
theorem bind_congr {α β : Type} {r r' : Re α} {f : α → Sto → Re β} (h : r = r') : r.bind f = r'.bind f := by rw [h]
theorem st_congr {α : Type} {r r' : Re α} {f : α → Sto → SR} (h : r = r') : r.st f = r'.st f := by rw [h]
theorem sbind_congr {r r' : SR} {f : En → Sto → SR} (h : r = r') : r.bind f = r'.bind f := by rw [h]
section
variable {N : En → Sto → Prop} {R : D → Sto → Prop} {B C : En → Sto → Prop}
theorem wp_ended {r : SR} {Q : D → Sto → Prop} : (ended r).wp Q = r.wp (fun _ T => Q .non T) Q (fun _ _ => False) (fun _ _ => False) := by
  simp only [wp_eq, wps_eq]
  cases r <;> rfl
theorem wps_nx {η : En} {T : Sto} : (SR.nx η T).wp N R B C = N η T := wps_eq
theorem wps_rt {d : D} {T : Sto} : (SR.rt d T).wp N R B C = R d T := wps_eq
theorem wps_bk {η : En} {T : Sto} : (SR.bk η T).wp N R B C = B η T := wps_eq
theorem wps_ct {η : En} {T : Sto} : (SR.ct η T).wp N R B C = C η T := wps_eq
theorem wps_st {α : Type} {r : Re α} {f : α → Sto → SR} : (r.st f).wp N R B C = r.wp fun a T => (f a T).wp N R B C := by
  simp only [wp_eq, wps_eq]
  cases r <;> rfl
theorem wps_bind {r : SR} {f : En → Sto → SR} : (r.bind f).wp N R B C = r.wp (fun η T => (f η T).wp N R B C) R B C := by
  simp only [wps_eq]
  cases r <;> rfl
theorem wp_step {α : Type} {r : Re α} {P Q : α → Sto → Prop} (h : r.wp P) (k : ∀ a T, P a T → Q a T) : r.wp Q := by
  rw [wp_eq] at h ⊢
  cases r with
  | ok a T => exact k a T h
  | ex c pl T => exact h.elim
  | no => exact h.elim
theorem wp_of {α : Type} {r : Re α} {a : α} {T : Sto} {Q : α → Sto → Prop} (e : r = .ok a T) (h : Q a T) : r.wp Q := by
  rw [e, wp_ok]
  exact h
theorem wp_ex {α : Type} {r : Re α} {Q : α → Sto → Prop} (h : r.wp Q) : ∃ a T, r = .ok a T ∧ Q a T := by
  rw [wp_eq] at h
  cases r with
  | ok a T => exact ⟨a, T, rfl, h⟩
  | ex c pl T => exact h.elim
  | no => exact h.elim
theorem ex_wp {α : Type} {r : Re α} {Q : α → Sto → Prop} (h : ∃ a T, r = .ok a T ∧ Q a T) : r.wp Q := by
  obtain ⟨a, T, e, h⟩ := h
  exact wp_of e h
theorem wps_step {r : SR} {N' : En → Sto → Prop} {R' : D → Sto → Prop} {B' C' : En → Sto → Prop} (h : r.wp N' R' B' C') (kn : ∀ η T, N' η T → N η T) (kr : ∀ d T, R' d T → R d T) (kb : ∀ η T, B' η T → B η T) (kc : ∀ η T, C' η T → C η T) : r.wp N R B C := by
  rw [wps_eq] at h ⊢
  cases r with
  | nx η T => exact kn η T h
  | rt d T => exact kr d T h
  | bk η T => exact kb η T h
  | ct η T => exact kc η T h
  | ex c pl T => exact h.elim
  | no => exact h.elim
/-- a block cut in two, by what holds between -/
theorem wps_cut (k : Nat) {c : Call} {ss : List S} {η : En} {T : Sto} (J : En → Sto → Prop) (h1 : (exB c (ss.take k) η T).wp J R B C) (h2 : ∀ η T, J η T → (exB c (ss.drop k) η T).wp N R B C) : (exB c ss η T).wp N R B C := by
  have app : ∀ (a b : List S) (η : En) (T : Sto), exB c (a ++ b) η T = (exB c a η T).bind (exB c b) := by
    intro a
    induction a with
    | nil => intro b η T; rw [List.nil_append, exB_n, SR.bind_nx]
    | cons s a ih =>
      intro b η T
      rw [List.cons_append, exB_c, exB_c]
      cases exS c s η T with
      | nx η1 T1 => rw [SR.bind_nx, SR.bind_nx, ih]
      | _ => rfl
  rw [← List.take_append_drop k ss, app, wps_bind]
  exact wps_step h1 h2 (fun _ _ h => h) (fun _ _ h => h) fun _ _ h => h
/-- a loop: J says what holds with these items left -/
theorem wps_for (J : List D → En → Sto → Prop) {tg : Tg} {f : En → Sto → SR} {xs : List D} {η : En} {T : Sto} (h0 : J xs η T)
    (hs : ∀ x ys η T, J (x :: ys) η T → ∃ η1, asgT tg x η = some η1 ∧ (f η1 T).wp (fun η T => J ys η T) R N (fun η T => J ys η T)) (he : ∀ η T, J [] η T → N η T) : (forL tg f xs η T).wp N R B C := by
  induction xs generalizing η T with
  | nil => rw [forL, wps_nx]; exact he η T h0
  | cons x xs ih =>
    obtain ⟨η1, e1, h⟩ := hs x xs η T h0
    rw [for_c, e1]
    simp only
    rw [wps_eq] at h
    cases e : f η1 T with
    | nx η2 T2 => rw [e] at h; exact ih h
    | ct η2 T2 => rw [e] at h; exact ih h
    | bk η2 T2 => rw [e] at h; rw [wps_nx]; exact h
    | rt d T2 => rw [e] at h; rw [wps_rt]; exact h
    | ex c pl T2 => rw [e] at h; exact h.elim
    | no => rw [e] at h; exact h.elim
/-- .. where each item is of a kind, and nothing hangs on how many are left -/
theorem wps_forI (I : D → Prop) (J : En → Sto → Prop) {tg : Tg} {f : En → Sto → SR} {xs : List D} {η : En} {T : Sto} (hx : ∀ x, x ∈ xs → I x) (h0 : J η T)
    (hs : ∀ x η T, I x → J η T → ∃ η1, asgT tg x η = some η1 ∧ (f η1 T).wp J R N J) (he : ∀ η T, J η T → N η T) : (forL tg f xs η T).wp N R B C := by
  refine wps_for (fun ys η T => (∀ y, y ∈ ys → I y) ∧ J η T) ⟨hx, h0⟩ (fun x ys η T ⟨h1, h2⟩ => ?_) fun η T h => he η T h.2
  obtain ⟨η1, e, h⟩ := hs x η T (h1 x List.mem_cons_self) h2
  exact ⟨η1, e, wps_step h (fun _ _ h => ⟨fun y m => h1 y (List.mem_cons_of_mem _ m), h⟩) (fun _ _ h => h) (fun _ _ h => h) fun _ _ h => ⟨fun y m => h1 y (List.mem_cons_of_mem _ m), h⟩⟩
/-- a while: J says what holds with so many turns at most left -/
theorem wps_whl (J : Nat → En → Sto → Prop) {t : En → Sto → Re W} {f : En → Sto → SR} {n k : Nat} {η : En} {T : Sto} (hn : k < n) (h0 : J k η T)
    (hs : ∀ k η T, J k η T → (t η T).wp fun x T1 => ∃ b, x = .v (.bl b) ∧ (b = false → N η T1) ∧ (b = true → (f η T1).wp (fun η T => ∃ j, j < k ∧ J j η T) R N (fun η T => ∃ j, j < k ∧ J j η T))) : (whlL t f n η T).wp N R B C := by
  induction n generalizing k η T with
  | zero => omega
  | succ n ih =>
    rw [whlL, wps_st]
    refine wp_step (hs k η T h0) fun x T1 ⟨b, e, h1, h2⟩ => ?_
    subst e
    rw [W.b?_bl]
    cases b with
    | false => rw [wps_nx]; exact h1 rfl
    | true =>
      have h := h2 rfl
      rw [wps_eq] at h
      simp only
      cases e : f η T1 with
      | nx η2 T2 => rw [e] at h; obtain ⟨j, hj, h⟩ := h; exact ih (by omega) h
      | ct η2 T2 => rw [e] at h; obtain ⟨j, hj, h⟩ := h; exact ih (by omega) h
      | bk η2 T2 => rw [e] at h; rw [wps_nx]; exact h
      | rt d T2 => rw [e] at h; rw [wps_rt]; exact h
      | ex c pl T2 => rw [e] at h; exact h.elim
      | no => rw [e] at h; exact h.elim
end
/-- items of a range -/
theorem rng_mem {lo hi : Int} {x : D} (m : x ∈ rngL lo hi) : ∃ i : Int, x = .int i ∧ lo ≤ i ∧ i < hi := by
  unfold rngL at m
  obtain ⟨k, hk, rfl⟩ := List.mem_map.mp m
  rw [List.mem_range] at hk
  exact ⟨_, rfl, by omega, by omega⟩
theorem i_rng {c : Call} {lo hi : E} {η : En} {T : Sto} : evI c (.rng (some lo) hi) η T = (evE c lo η T).bind fun x T => (Re.of x.i? T).bind fun l T => (evE c hi η T).bind fun y T => match y.i? with
      | some h => if small62 l = true ∧ small62 h = true then .ok (rngL l h) T else .no
      | none => .no := by
  rw [evI]
  cases evE c lo η T <;> rfl
theorem i_rng0 {c : Call} {hi : E} {η : En} {T : Sto} : evI c (.rng none hi) η T = (evE c hi η T).bind fun y T => match y.i? with
      | some h => if small62 0 = true ∧ small62 h = true then .ok (rngL 0 h) T else .no
      | none => .no := by
  rw [evI]
  rfl
theorem sm62 {i : Int} (h1 : -(2 ^ 62) ≤ i) (h2 : i < 2 ^ 62) : small62 i = true := decide_eq_true ⟨h1, h2⟩
theorem if62 {α : Type} {i j : Int} {a b : α} (h1 : -(2 ^ 62) ≤ i ∧ i < 2 ^ 62) (h2 : -(2 ^ 62) ≤ j ∧ j < 2 ^ 62) : (if small62 i = true ∧ small62 j = true then a else b) = a := if_pos ⟨sm62 h1.1 h1.2, sm62 h2.1 h2.2⟩
theorem x_tri {T : Sto} {a b c : D} {i : Int} : ixW T (.v (.tup [a, b, c])) (.v (.int 2)) = some (.v c) := rfl
/-! ### rules that run from the front only -/
/-- a mark: what stands here runs -/
def At (T : Sto) : Sto := T
theorem me_var  {c : Call} {i : Nat} {η : En} {T : Sto} : type_of% (@e_var c i η (At T)) := @e_var c i η (At T)
theorem me_cst  {c : Call} {d : D} {η : En} {T : Sto} : type_of% (@e_cst c d η (At T)) := @e_cst c d η (At T)
theorem me_gfn  {c : Call} {f : Nat} {η : En} {T : Sto} : type_of% (@e_gfn c f η (At T)) := @e_gfn c f η (At T)
theorem me_tup  {c : Call} {es : List E} {η : En} {T : Sto} : type_of% (@e_tup c es η (At T)) := @e_tup c es η (At T)
theorem me_lst  {c : Call} {es : List E} {η : En} {T : Sto} : type_of% (@e_lst c es η (At T)) := @e_lst c es η (At T)
theorem me_bin  {c : Call} {op : Operator} {a b : E} {η : En} {T : Sto} : type_of% (@e_bin c op a b η (At T)) := @e_bin c op a b η (At T)
theorem me_neg  {c : Call} {a : E} {η : En} {T : Sto} : type_of% (@e_neg c a η (At T)) := @e_neg c a η (At T)
theorem me_cmp  {c : Call} {op : CmpOp} {a b : E} {η : En} {T : Sto} : type_of% (@e_cmp c op a b η (At T)) := @e_cmp c op a b η (At T)
theorem me_chain  {c : Call} {op op2 : CmpOp} {a b d : E} {η : En} {T : Sto} : type_of% (@e_chain c op op2 a b d η (At T)) := @e_chain c op op2 a b d η (At T)
theorem me_and  {c : Call} {a b : E} {η : En} {T : Sto} : type_of% (@e_and c a b η (At T)) := @e_and c a b η (At T)
theorem me_or  {c : Call} {a b : E} {η : En} {T : Sto} : type_of% (@e_or c a b η (At T)) := @e_or c a b η (At T)
theorem me_not  {c : Call} {a : E} {η : En} {T : Sto} : type_of% (@e_not c a η (At T)) := @e_not c a η (At T)
theorem me_ife  {c : Call} {t a b : E} {η : En} {T : Sto} : type_of% (@e_ife c t a b η (At T)) := @e_ife c t a b η (At T)
theorem me_ix  {c : Call} {a i : E} {η : En} {T : Sto} : type_of% (@e_ix c a i η (At T)) := @e_ix c a i η (At T)
theorem me_sl  {c : Call} {a : E} {lo hi : Option E} {η : En} {T : Sto} : type_of% (@e_sl c a lo hi η (At T)) := @e_sl c a lo hi η (At T)
theorem me_call  {c : Call} {f : Nat} {es : List E} {η : En} {T : Sto} : type_of% (@e_call c f es η (At T)) := @e_call c f es η (At T)
theorem me_callK  {c : Call} {f np : Nat} {perm : List Nat} {es : List E} {η : En} {T : Sto} : type_of% (@e_callK c f np perm es η (At T)) := @e_callK c f np perm es η (At T)
theorem me_b1  {c : Call} {b : B1} {a : E} {η : En} {T : Sto} : type_of% (@e_b1 c b a η (At T)) := @e_b1 c b a η (At T)
theorem me_b2  {c : Call} {b : B2} {a1 a2 : E} {η : En} {T : Sto} : type_of% (@e_b2 c b a1 a2 η (At T)) := @e_b2 c b a1 a2 η (At T)
theorem me_isi  {c : Call} {a : E} {t : Ty} {η : En} {T : Sto} : type_of% (@e_isi c a t η (At T)) := @e_isi c a t η (At T)
theorem me_bits  {c : Call} {a : E} {η : En} {T : Sto} : type_of% (@e_bits c a η (At T)) := @e_bits c a η (At T)
theorem me_pop  {c : Call} {o : E} {η : En} {T : Sto} : type_of% (@e_pop c o η (At T)) := @e_pop c o η (At T)
theorem me_share  {c : Call} {e : E} {η : En} {T : Sto} : type_of% (@e_share c e η (At T)) := @e_share c e η (At T)
theorem mo_n  {c : Call}  {η : En} {T : Sto} : type_of% (@o_n c η (At T)) := @o_n c η (At T)
theorem mo_s  {c : Call} {e : E} {η : En} {T : Sto} : type_of% (@o_s c e η (At T)) := @o_s c e η (At T)
theorem md_n  {c : Call}  {η : En} {T : Sto} : type_of% (@d_n c η (At T)) := @d_n c η (At T)
theorem md_c  {c : Call} {e : E} {es : List E} {η : En} {T : Sto} : type_of% (@d_c c e es η (At T)) := @d_c c e es η (At T)
theorem ms_asg  {c : Call} {tg : Tg} {e : E} {η : En} {T : Sto} : type_of% (@s_asg c tg e η (At T)) := @s_asg c tg e η (At T)
theorem ms_own  {c : Call} {i : Nat} {e : E} {η : En} {T : Sto} : type_of% (@s_own c i e η (At T)) := @s_own c i e η (At T)
theorem ms_par2  {c : Call} {i j : Nat} {oi oj : Bool} {a b : E} {η : En} {T : Sto} : type_of% (@s_par2 c i j oi oj a b η (At T)) := @s_par2 c i j oi oj a b η (At T)
theorem ms_frz  {c : Call} {i : Nat} {η : En} {T : Sto} : type_of% (@s_frz c i η (At T)) := @s_frz c i η (At T)
theorem ms_ret  {c : Call} {e : E} {η : En} {T : Sto} : type_of% (@s_ret c e η (At T)) := @s_ret c e η (At T)
theorem ms_retN  {c : Call}  {η : En} {T : Sto} : type_of% (@s_retN c η (At T)) := @s_retN c η (At T)
theorem ms_if  {c : Call} {t : E} {a b : List S} {η : En} {T : Sto} : type_of% (@s_if c t a b η (At T)) := @s_if c t a b η (At T)
theorem ms_whl  {c : Call} {t : E} {b : List S} {η : En} {T : Sto} : type_of% (@s_whl c t b η (At T)) := @s_whl c t b η (At T)
theorem ms_brk  {c : Call}  {η : En} {T : Sto} : type_of% (@s_brk c η (At T)) := @s_brk c η (At T)
theorem ms_cnt  {c : Call}  {η : En} {T : Sto} : type_of% (@s_cnt c η (At T)) := @s_cnt c η (At T)
theorem ms_exp  {c : Call} {e : E} {η : En} {T : Sto} : type_of% (@s_exp c e η (At T)) := @s_exp c e η (At T)
theorem ms_app  {c : Call} {i : Nat} {e : E} {η : En} {T : Sto} : type_of% (@s_app c i e η (At T)) := @s_app c i e η (At T)
theorem ms_setL  {c : Call} {o ix e : E} {η : En} {T : Sto} : type_of% (@s_setL c o ix e η (At T)) := @s_setL c o ix e η (At T)
theorem mexB_n  {c : Call} {η : En} {T : Sto} : type_of% (@exB_n c η (At T)) := @exB_n c η (At T)
theorem mexB_c  {c : Call} {s : S} {ss : List S} {η : En} {T : Sto} : type_of% (@exB_c c s ss η (At T)) := @exB_c c s ss η (At T)
theorem ms_for2  {c : Call} {tg : Tg} {it : E} {b : List S} {η : En} {T : Sto} : type_of% (@s_for2 c tg it b η (At T)) := @s_for2 c tg it b η (At T)
theorem mit_sq  {c : Call} {e : E} {η : En} {T : Sto} : type_of% (@it_sq c e η (At T)) := @it_sq c e η (At T)
theorem mit_rvd  {c : Call} {e : E} {η : En} {T : Sto} : type_of% (@it_rvd c e η (At T)) := @it_rvd c e η (At T)
theorem mi_rng  {c : Call} {lo hi : E} {η : En} {T : Sto} : type_of% (@i_rng c lo hi η (At T)) := @i_rng c lo hi η (At T)
theorem mi_rng0  {c : Call} {hi : E} {η : En} {T : Sto} : type_of% (@i_rng0 c hi η (At T)) := @i_rng0 c hi η (At T)
section
variable {N : En → Sto → Prop} {R : D → Sto → Prop} {B C : En → Sto → Prop}
theorem wpm_step {α : Type} {r : Re α} {P Q : α → Sto → Prop} (h : r.wp P) (k : ∀ a T, P a T → Q a (At T)) : r.wp Q := wp_step h k
theorem wpm_cut (k : Nat) {c : Call} {ss : List S} {η : En} {T : Sto} (J : En → Sto → Prop) (h1 : (exB c (ss.take k) η (At T)).wp J R B C) (h2 : ∀ η T, J η T → (exB c (ss.drop k) η (At T)).wp N R B C) : (exB c ss η (At T)).wp N R B C := wps_cut k J h1 h2
theorem wpm_for (J : List D → En → Sto → Prop) {tg : Tg} {f : En → Sto → SR} {xs : List D} {η : En} {T : Sto} (h0 : J xs η T)
    (hs : ∀ x ys η T, J (x :: ys) η T → ∃ η1, asgT tg x η = some η1 ∧ (f η1 (At T)).wp (fun η T => J ys η T) R N (fun η T => J ys η T)) (he : ∀ η T, J [] η T → N η (At T)) : (forL tg f xs η (At T)).wp N R B C := wps_for J h0 hs he
theorem wpm_forI (I : D → Prop) (J : En → Sto → Prop) {tg : Tg} {f : En → Sto → SR} {xs : List D} {η : En} {T : Sto} (hx : ∀ x, x ∈ xs → I x) (h0 : J η T)
    (hs : ∀ x η T, I x → J η T → ∃ η1, asgT tg x η = some η1 ∧ (f η1 (At T)).wp J R N J) (he : ∀ η T, J η T → N η (At T)) : (forL tg f xs η (At T)).wp N R B C := wps_forI I J hx h0 hs he
theorem wpm_whl (J : Nat → En → Sto → Prop) {t : En → Sto → Re W} {f : En → Sto → SR} {n k : Nat} {η : En} {T : Sto} (hn : k < n) (h0 : J k η T)
    (hs : ∀ k η T, J k η T → (t η (At T)).wp fun x T1 => ∃ b, x = .v (.bl b) ∧ (b = false → N η (At T1)) ∧ (b = true → (f η (At T1)).wp (fun η T => ∃ j, j < k ∧ J j η T) R N (fun η T => ∃ j, j < k ∧ J j η T))) : (whlL t f n η (At T)).wp N R B C := wps_whl J hn h0 hs
end
end Ev
namespace Ev
open PySem
theorem eq_pr {T : Sto} {a c : Int × Int} : eqW T (.v (pr a)) (.v (pr c)) = some (decide (a = c)) := by
  obtain ⟨a1, a2⟩ := a
  obtain ⟨c1, c2⟩ := c
  have s : ∀ a b : Int, SeqAt.shaped (.tuple [.int a, .int b]) = true := fun a b => by
    unfold SeqAt.shaped
    simp [PyData.canLay0, PyData.canLayAll0, PyData.depth, PyData.depthAll]
  show (if SeqAt.shaped (.tuple [.int a1, .int a2]) = true ∧ SeqAt.shaped (.tuple [.int c1, .int c2]) = true then some (PyData.eqv (.tuple [.int a1, .int a2]) (.tuple [.int c1, .int c2])) else none) = _
  rw [if_pos ⟨s _ _, s _ _⟩]
  simp only [PyData.eqv, PyData.eqvAll, Prod.mk.injEq, Bool.and_true, Bool.decide_and]
  rfl
theorem c_eqp {T : Sto} {a c : Int × Int} : cmpW .Eq T (.v (pr a)) (.v (pr c)) = some (decide (a = c)) := by
  unfold cmpW
  exact eq_pr
theorem c_nep {T : Sto} {a c : Int × Int} : cmpW .NotEq T (.v (pr a)) (.v (pr c)) = some (!decide (a = c)) := by
  unfold cmpW
  simp only
  rw [eq_pr]
  rfl
theorem c_eqN {T : Sto} {x b y c : Int} : cmpW .Eq T (.v (N x b)) (.v (N y c)) = some (decide (num x b = num y c)) := c_eqp
theorem c_neN {T : Sto} {x b y c : Int} : cmpW .NotEq T (.v (N x b)) (.v (N y c)) = some (!decide (num x b = num y c)) := c_nep
theorem bg_eq {cs : List Int} {r m : Int} : cmpW .Eq (bagT cs r m) (.v (.loc 0)) (.l true []) = some (decide (cs = [])) := by
  have h := bg_ne (cs := cs) (r := r) (m := m)
  unfold cmpW at h ⊢
  simp only at h ⊢
  cases e : eqW (bagT cs r m) (.v (.loc 0)) (.l true []) with
  | none => rw [e] at h; cases h
  | some k =>
    rw [e] at h
    have h2 := Option.some.inj h
    cases k <;> cases hd : decide (cs = []) <;> rw [hd] at h2 <;> first | rfl | cases h2
theorem ix_mem {f : Bool} {xs : List D} {i : Int} (h0 : 0 ≤ i) (h1 : i < xs.length) : ∃ d, d ∈ xs ∧ ∀ T, ixW T (.l f xs) (.v (.int i)) = some (.v d) := by
  refine ⟨xs[i.toNat]'(by omega), List.getElem_mem _, fun T => ?_⟩
  have hx : L2.ixN xs.length i = some i.toNat := by
    unfold L2.ixN
    rw [if_pos h0, if_pos h1]
  show (match ixD xs i with | some d => some (W.v d) | none => none) = _
  unfold ixD L2.atI
  rw [hx]
  show (match xs[i.toNat]? with | some d => some (W.v d) | none => none) = _
  rw [List.getElem?_eq_getElem (by omega)]
theorem ix_memv {xs : List D} {i : Int} (h0 : 0 ≤ i) (h1 : i < xs.length) : ∃ d, d ∈ xs ∧ ∀ T, ixW T (.v (.lst xs)) (.v (.int i)) = some (.v d) := ix_mem (f := true) h0 h1
theorem x_rev {T : Sto} {f : Bool} {xs : List D} : b1W .rev T (.l f xs) = some (.l true xs.reverse) := rfl
theorem x_list {T : Sto} {xs : List D} : b1W .list T (.v (.lst xs)) = some (.l true xs) := rfl
theorem x_listl {T : Sto} {f : Bool} {xs : List D} : b1W .list T (.l f xs) = some (.l true xs) := rfl
/-- the number again, by its own parts -/
theorem N_self {x b : Int} : N (num x b).1 (num x b).2 = N x b := by
  by_cases h : x = 0
  · subst h
    rfl
  · obtain ⟨k, m, ho, e1, e2⟩ := num_parts (b := b) h
    show pr (num (num x b).1 (num x b).2) = pr (num x b)
    rw [e2]
    exact congrArg pr (num_odd1 ho)
theorem N_odd {m e : Int} (h : m % 2 = 1) : N m e = .tup [.int m, .int e] := congrArg pr (num_odd1 h)
theorem N_zero {e : Int} : N 0 e = .tup [.int 0, .int 0] := rfl
theorem num_ne {x b : Int} (h : x ≠ 0) : (num x b).1 % 2 = 1 := by
  obtain ⟨k, m, ho, e1, e2⟩ := num_parts (b := b) h
  rw [e2]
  exact ho
theorem N_neg {x b : Int} : D.tup [.int (-(num x b).1), .int (num x b).2] = N (-x) b := by
  show pr (-(num x b).1, (num x b).2) = pr (num (-x) b)
  rw [num_neg]
theorem num_eq_iff {x y b : Int} : num x b = num y b ↔ x = y := by
  constructor
  · intro h
    have hv : ∀ z : Int, z ≠ 0 → ∃ k : Nat, z = (num z b).1 * 2 ^ k ∧ (num z b).2 = b + k := fun z hz => by
      obtain ⟨k, m, ho, e1, e2⟩ := num_parts (b := b) hz
      exact ⟨k, by rw [e2]; exact e1, by rw [e2]⟩
    by_cases hx : x = 0
    · subst hx
      by_cases hy : y = 0
      · exact hy.symm
      · have := num_ne (b := b) hy
        rw [← h, num_zero] at this
        exact absurd this (by decide)
    · by_cases hy : y = 0
      · subst hy
        have := num_ne (b := b) hx
        rw [h, num_zero] at this
        exact absurd this (by decide)
      · obtain ⟨k, e1, e2⟩ := hv x hx
        obtain ⟨j, e3, e4⟩ := hv y hy
        rw [h] at e1 e2
        have : k = j := by omega
        subst this
        rw [e1, ← e3]
  · rintro rfl
    rfl
end Ev
namespace Ev
open PySem
/-- a bag of cells from 0 on -/
def isB (T : Sto) : Prop := ∃ cs r m, T = bagT cs r m ∧ (∀ c, c ∈ cs → 0 ≤ c) ∧ 0 ≤ r ∧ 0 ≤ m ∧ m < 2147483647
theorem small_bits {p : Nat} {i : Int} (h1 : -(2 ^ p) < i) (h2 : i < 2 ^ p) : bits i ≤ p := by
  rw [bits_le]
  have : (2 : Int) ^ p = ((2 ^ p : Nat) : Int) := pow_cast.symm
  omega
theorem bits31 {m : Int} (h0 : 0 ≤ m) (h1 : m < 2147483647) : bits m ≤ 31 := small_bits (by omega) (by omega)
theorem cut_ro {xs : List D} {T : Sto} {h : Int} : slW T (.v (.ro xs)) none (some h) = some (.l true (cutD xs none (some h))) := rfl
theorem cutD_map {ns : List Int} {lo hi : Option Int} : cutD (ns.map D.int) lo hi = ((ns.drop (HT.sIx ns.length 0 lo)).take (HT.sIx ns.length ns.length hi - HT.sIx ns.length 0 lo)).map D.int := by
  unfold cutD
  rw [List.length_map, List.map_take, List.map_drop]
theorem cutD_mem {xs : List D} {lo hi : Option Int} {d : D} (m : d ∈ cutD xs lo hi) : d ∈ xs := List.mem_of_mem_drop (List.mem_of_mem_take m)
theorem cutD_len {xs : List D} {lo hi : Option Int} : (cutD xs lo hi).length ≤ xs.length := by
  unfold cutD
  rw [List.length_take, List.length_drop]
  omega
theorem sl_own {T : Sto} {f : Bool} {xs : List D} {lo hi : Option Int} : slW T (.l f xs) lo hi = some (.l true (cutD xs lo hi)) := rfl
theorem len_lst {T : Sto} {xs : List D} : b1W .len T (.v (.lst xs)) = some (.v (.int xs.length)) := rfl
theorem len_tup {T : Sto} {xs : List D} : b1W .len T (.v (.tup xs)) = some (.v (.int xs.length)) := rfl
/-- a comprehension over ints with one step for each -/
theorem lc_ints {c : Call} {elt it : E} {v : Nat} {vs : List Nat} {η : En} {T : Sto} {ms : List Int} {g : Int → Int} (hit : evI c it η T = .ok (ms.map D.int) T) (hl : ms.length ≤ 1000000) (hv : v < (wipeE η vs).length)
    (h : ∀ i : Int, i ∈ ms → evE c elt ((wipeE η vs).put v (.val (.int i))) T = .ok (.v (.int (g i))) T) : evE c (.lc elt (.var v) it none vs) η T = .ok (.l true ((ms.map g).map D.int)) T := by
  rw [evE_lc, hit, Re.bind_ok, if_neg (by rw [List.length_map]; show ¬ (1000000 : Nat) < ms.length; omega), lcL_fm (g := onI fun i => some (g i))]
  · rw [Re.bind_ok, fmI]
    congr 3
    exact congrFun List.filterMap_eq_map _
  · intro x m
    obtain ⟨i, hi, rfl⟩ := List.mem_map.mp m
    refine ⟨(wipeE η vs).put v (.val (.int i)), by rw [asgT, if_pos hv], ?_⟩
    unfold lcF
    rw [h i hi]
    rfl
end Ev
namespace Ev
open PySem
section
variable {cs : List Int} {r m : Int}
theorem bgm_0 : ixW (At (bagT cs r m)) (.v (.loc 1)) (.v (.int 0)) = some (.v (.loc 0)) := rfl
theorem bgm_1 : ixW (At (bagT cs r m)) (.v (.loc 1)) (.v (.int 1)) = some (.v (.int r)) := rfl
theorem bgm_2 : ixW (At (bagT cs r m)) (.v (.loc 1)) (.v (.int 2)) = some (.v (.int m)) := rfl
theorem bgm_eq : cmpW .Eq (At (bagT cs r m)) (.v (.loc 0)) (.l true []) = some (decide (cs = [])) := bg_eq
theorem bgm_ne : cmpW .NotEq (At (bagT cs r m)) (.v (.loc 0)) (.l true []) = some (!decide (cs = [])) := bg_ne
theorem bgm_st : stL (At (bagT cs r m)) (.v (.loc 1)) = some (1, [.loc 0, .int r, .int m]) := rfl
theorem bgm_w1 {v : Int} : (At (bagT cs r m)).set 1 ([D.loc 0, .int r, .int m].set 1 (.int v)) = At (bagT cs v m) := rfl
theorem bgm_w2 {v : Int} : (At (bagT cs r m)).set 1 ([D.loc 0, .int r, .int m].set 2 (.int v)) = At (bagT cs r v) := rfl
theorem bgm_pop {c : Call} {η : En} (h : En.get η 0 = .val (.loc 1)) (hc : cs ≠ []) : evE c (.pop (.ix (.var 0) (.cst (.int 0)))) η (At (bagT cs r m)) = .ok (.v (.int (cs.getLast hc))) (At (bagT cs.dropLast r m)) := bg_pop h hc
end
end Ev
namespace Ev
open PySem
/-- data of ints, bools, None and tuples of such, so deep -/
def plainI : Nat → D → Prop
  | _, .non => True
  | _, .bl _ => True
  | _, .int _ => True
  | 0, _ => False
  | n + 1, .tup ds => ds.length ≤ 1000000 ∧ ∀ d, d ∈ ds → plainI n d
  | _, _ => False
theorem pI_int {n : Nat} {i : Int} : plainI n (.int i) := by cases n <;> trivial
theorem pI_bl {n : Nat} {i : Bool} : plainI n (.bl i) := by cases n <;> trivial
theorem pI_non {n : Nat} : plainI n .non := by cases n <;> trivial
theorem pI_tup {n : Nat} {ds : List D} (h : ds.length ≤ 1000000) (h2 : ∀ d, d ∈ ds → plainI n d) : plainI (n + 1) (.tup ds) := ⟨h, h2⟩
theorem pI_N {n : Nat} {x b : Int} : plainI (n + 1) (N x b) := by
  show plainI (n + 1) (.tup [.int _, .int _])
  refine ⟨by simp, fun d m => ?_⟩
  simp only [List.mem_cons, List.not_mem_nil, or_false] at m
  rcases m with rfl | rfl <;> exact pI_int
theorem pI_nil {n : Nat} : plainI (n + 1) (.tup []) := ⟨by simp, fun d m => by cases m⟩
theorem pI_cons {n : Nat} {d : D} {ds : List D} (h : plainI n d) (h2 : plainI (n + 1) (.tup ds)) (hl : ds.length < 1000000) : plainI (n + 1) (.tup (d :: ds)) := by
  refine ⟨by rw [List.length_cons]; omega, fun e m => ?_⟩
  rcases List.mem_cons.mp m with rfl | m
  · exact h
  · exact h2.2 e m
theorem pI_1 {n : Nat} {a : D} (h : plainI n a) : plainI (n + 1) (.tup [a]) := pI_cons h pI_nil (by simp)
theorem pI_2 {n : Nat} {a b : D} (h : plainI n a) (h2 : plainI n b) : plainI (n + 1) (.tup [a, b]) := pI_cons h (pI_1 h2) (by simp)
theorem pI_3 {n : Nat} {a b c : D} (h : plainI n a) (h2 : plainI n b) (h3 : plainI n c) : plainI (n + 1) (.tup [a, b, c]) := pI_cons h (pI_2 h2 h3) (by simp)
theorem pI_4 {n : Nat} {a b c d : D} (h : plainI n a) (h2 : plainI n b) (h3 : plainI n c) (h4 : plainI n d) : plainI (n + 1) (.tup [a, b, c, d]) := pI_cons h (pI_3 h2 h3 h4) (by simp)
theorem pI_5 {n : Nat} {a b c d e : D} (h : plainI n a) (h2 : plainI n b) (h3 : plainI n c) (h4 : plainI n d) (h5 : plainI n e) : plainI (n + 1) (.tup [a, b, c, d, e]) := pI_cons h (pI_4 h2 h3 h4 h5) (by simp)
theorem pI_6 {n : Nat} {a b c d e f : D} (h : plainI n a) (h2 : plainI n b) (h3 : plainI n c) (h4 : plainI n d) (h5 : plainI n e) (h6 : plainI n f) : plainI (n + 1) (.tup [a, b, c, d, e, f]) := pI_cons h (pI_5 h2 h3 h4 h5 h6) (by simp)
end Ev
namespace Ev
open PySem
/-- what is rounded fits -/
theorem rn_fits {p : Nat} {w : Str} {x b : Int} (hp : 1 ≤ p) : bits (num (rn p w x) b).1 ≤ p := by
  by_cases h : bits x ≤ p
  · rw [rn_id h]
    exact (num_bd h).1
  · have h : p < bits x := by omega
    rw [rn_big h]
    have q1 := quo_lt (p := p) (n := x) (by omega)
    have q2 := quo_ge hp h
    have q3 := pow_pos2 (p - 1)
    have q4 := @rnQ_or p w x
    have q5 : rnq p w x = rnQ p w x ∨ rnq p w x = -rnQ p w x := by
      unfold rnq rnQ
      by_cases hx : 0 < x
      · left; simp only [hx, if_true]; try rfl
      · right; simp only [hx, if_false]; try rfl
    exact bits_told hp (by omega) (by omega)
end Ev
namespace Ev
open PySem
theorem i_or1 {T : Sto} {i : Int} : opW .BitOr T (.v (.int i)) (.v (.int 1)) = some (.v (.int (i + 1 - i % 2))) := by
  show some (W.v (.int (Builtin.bitOr i 1))) = _
  rw [PyProof.Rows.bitOr_and, PyProof.Rows.bitAnd_m1]
theorem pow_dbl {k : Nat} (h : 1 ≤ k) : (2 : Int) ^ k = 2 * 2 ^ (k - 1) := by
  obtain ⟨j, rfl⟩ : ∃ j, k = j + 1 := ⟨k - 1, by omega⟩
  rw [Nat.add_sub_cancel, Int.pow_succ, Int.mul_comm]
theorem N_fst {x b e : Int} (h : x ≠ 0) : D.tup [.int (num x b).1, .int e] = N (num x b).1 e := (N_odd (num_ne h)).symm
theorem bits_fst {x b : Int} {p : Nat} (h : bits x ≤ p) : bits (num x b).1 ≤ p := (num_bd h).1
theorem bits_pm {x y : Int} {p : Nat} (h : bits x ≤ p) (e : y = x ∨ y = -x) : bits y ≤ p := by
  rcases e with rfl | rfl
  · exact h
  · rw [bits_neg]; exact h
/-- a number of the format, exponents within 450 -/
def isNum (p : Nat) (d : D) : Prop := ∃ x b, d = N x b ∧ bits x ≤ p ∧ -450 ≤ b ∧ b ≤ 450
theorem isNum_0 {p : Nat} : isNum p (.tup [.int 0, .int 0]) := ⟨0, 0, rfl, by rw [bits_zero]; omega, by omega, by omega⟩
end Ev
namespace Ev
open PySem
/-! ### numbers that fit, the nearest one, what sums lose -/
/-- fits: few figures times a power of 2 -/
def Fit (p : Nat) (x : Int) : Prop := ∃ (q : Int) (j : Nat), x = q * 2 ^ j ∧ -(2 ^ p) ≤ q ∧ q ≤ 2 ^ p
variable {p : Nat}
theorem Fit.rn {x : Int} (h : Fit p x) (hp : 1 ≤ p) {w : Str} : rn p w x = x := by
  obtain ⟨q, j, rfl, h1, h2⟩ := h
  exact rn_exact hp h1 h2
theorem Fit.bits {x b : Int} (h : Fit p x) (hp : 1 ≤ p) : bits (num x b).1 ≤ p := by
  have := rn_fits (p := p) (w := wNear) (x := x) (b := b) hp
  rw [h.rn hp] at this
  exact this
theorem Fit.of {x b : Int} (h : Ev.bits (num x b).1 ≤ p) : Fit p x := by
  by_cases h0 : x = 0
  · exact ⟨0, 0, by rw [h0]; simp, by have := pow_pos2 p; omega, by have := pow_pos2 p; omega⟩
  · obtain ⟨k, m, ho, e1, e2⟩ := num_parts (b := b) h0
    rw [e2] at h
    have h3 := bits_le.mp h
    have h4 : ((2 ^ p : Nat) : Int) = (2 : Int) ^ p := pow_cast
    exact ⟨m, k, e1, by omega, by omega⟩
theorem Fit.neg {x : Int} (h : Fit p x) : Fit p (-x) := by
  obtain ⟨q, j, rfl, h1, h2⟩ := h
  exact ⟨-q, j, by rw [Int.neg_mul], by omega, by omega⟩
theorem Fit.zero : Fit p 0 := ⟨0, 0, by simp, by have := pow_pos2 p; omega, by have := pow_pos2 p; omega⟩
theorem fit_rn {x : Int} {w : Str} (hp : 1 ≤ p) : Fit p (rn p w x) := Fit.of (b := 0) (rn_fits hp)
theorem fit_small {x : Int} (h1 : -(2 ^ p) ≤ x) (h2 : x ≤ 2 ^ p) : Fit p x := ⟨x, 0, by simp, h1, h2⟩
/-- a great one that fits is a multiple -/
theorem Fit.mult {x : Int} {j : Nat} (h : Fit p x) (hp : 1 ≤ p) (hx : (2 : Int) ^ (p + j - 1) ≤ x ∨ x ≤ -(2 ^ (p + j - 1))) : ∃ q, x = q * 2 ^ j := by
  obtain ⟨q, e⟩ := rn_mult (p := p) (j := j) (w := wNear) hx hp
  rw [h.rn hp] at e
  exact ⟨q, e⟩
theorem mul_low {q : Int} {i j : Nat} (h : i ≤ j) : ∃ r, q * 2 ^ j = r * 2 ^ i := ⟨q * 2 ^ (j - i), by rw [Int.mul_assoc, ← Int.pow_add]; congr 2; omega⟩
/-- where a number lies: below 2 ^ (p + c), from 2 ^ (p + c - 1) on, or it has few figures -/
theorem place {x : Int} (hp : 1 ≤ p) (h : p < Ev.bits x) : ∃ c : Nat, 1 ≤ c ∧ ((2 : Int) ^ (p + c - 1) ≤ x ∨ x ≤ -(2 ^ (p + c - 1))) ∧ -(2 ^ (p + c)) < x ∧ x < 2 ^ (p + c) := by
  refine ⟨cutK p x, by unfold cutK; omega, ?_, ?_⟩
  · have h1 := abs_ge_bits (n := x) (k := p + cutK p x - 1) (by unfold cutK; omega)
    split at h1 <;> omega
  · have h1 := abs_lt_bits (n := x) (k := p + cutK p x) (by unfold cutK; omega)
    split at h1 <;> omega
/-- the nearest one -/
theorem near_best {x f : Int} (hp : 1 ≤ p) (hf : Fit p f) : (rn p wNear x - x ≤ x - f ∨ rn p wNear x - x ≤ f - x) ∧ (x - rn p wNear x ≤ x - f ∨ x - rn p wNear x ≤ f - x) := by
  by_cases hb : Ev.bits x ≤ p
  · rw [rn_id hb]
    omega
  obtain ⟨c, hc, hx1, hx2, hx3⟩ := place hp (show p < Ev.bits x by omega)
  obtain ⟨e1, e2⟩ := near_err (p := p) (j := c) (n := x) hp (by omega) (by omega)
  obtain ⟨q, hq⟩ := rn_mult (p := p) (j := c) (w := wNear) hx1 hp
  have hW := pow_pos2 c
  have hmul : ∀ k : Int, (rn p wNear x - x ≤ x - k * 2 ^ c ∨ rn p wNear x - x ≤ k * 2 ^ c - x) ∧ (x - rn p wNear x ≤ x - k * 2 ^ c ∨ x - rn p wNear x ≤ k * 2 ^ c - x) := fun k => by
    rw [hq] at e1 e2 ⊢
    rcases Int.lt_trichotomy k q with h | h | h
    · have : (k + 1) * 2 ^ c ≤ q * 2 ^ c := Int.mul_le_mul_of_nonneg_right (by omega) (by omega)
      rw [Int.add_mul, Int.one_mul] at this
      omega
    · subst h
      omega
    · have : (q + 1) * 2 ^ c ≤ k * 2 ^ c := Int.mul_le_mul_of_nonneg_right (by omega) (by omega)
      rw [Int.add_mul, Int.one_mul] at this
      omega
  by_cases hm : ∃ k, f = k * 2 ^ c
  · obtain ⟨k, rfl⟩ := hm
    exact hmul k
  · have hs : -(2 ^ (p + c - 1)) < f ∧ f < 2 ^ (p + c - 1) := by
      refine ⟨?_, ?_⟩
      · by_cases h : f ≤ -(2 ^ (p + c - 1))
        · exact absurd (hf.mult hp (.inr h)) hm
        · omega
      · by_cases h : (2 : Int) ^ (p + c - 1) ≤ f
        · exact absurd (hf.mult hp (.inl h)) hm
        · omega
    have ee : (2 : Int) ^ (p + c - 1) = 2 ^ (p - 1) * 2 ^ c := by
      rw [← Int.pow_add]
      congr 1
      omega
    rcases hx1 with h | h
    · have := hmul (2 ^ (p - 1))
      rw [← ee] at this
      omega
    · have := hmul (-(2 ^ (p - 1)))
      rw [Int.neg_mul, ← ee] at this
      omega
/-- a number of few figures, or of a place -/
theorem few {x : Int} (h : Ev.bits x ≤ p) : -(2 ^ p) < x ∧ x < 2 ^ p := by
  have := bits_le.mp h
  have h4 : ((2 ^ p : Nat) : Int) = (2 : Int) ^ p := pow_cast
  omega
/-- three deeds: X fits, Y is less than 2 ^ p -/
theorem fast0 {X Y : Int} (hp : 1 ≤ p) (hX : Fit p X) (h1 : -(2 ^ p) < Y) (h2 : Y < 2 ^ p) : Fit p (rn p wNear (X + Y) - X) ∧ Fit p (X + Y - rn p wNear (X + Y)) := by
  by_cases hb : Ev.bits (X + Y) ≤ p
  · rw [rn_id hb]
    refine ⟨?_, ?_⟩
    · rw [show X + Y - X = Y by omega]
      exact fit_small (by omega) (by omega)
    · rw [Int.sub_self]
      exact Fit.zero
  obtain ⟨c, hc, hx1, hx2, hx3⟩ := place hp (show p < Ev.bits (X + Y) by omega)
  obtain ⟨e1, e2⟩ := near_err (p := p) (j := c) (n := X + Y) hp (by omega) (by omega)
  obtain ⟨q, hq⟩ := rn_mult (p := p) (j := c) (w := wNear) hx1 hp
  have hnb := near_best (p := p) (x := X + Y) (f := X) hp hX
  refine ⟨?_, fit_small (by omega) (by omega)⟩
  -- X is a multiple of half a step
  have hXm : ∃ r, X = r * 2 ^ (c - 1) := by
    by_cases hc1 : c = 1
    · subst hc1
      exact ⟨X, by simp⟩
    · refine hX.mult hp ?_
      have i1 : (2 : Int) ^ (p + c - 1) = 2 * 2 ^ (p + (c - 1) - 1) := by
        rw [Int.mul_comm, ← Int.pow_succ]
        congr 1
        omega
      have i2 : (2 : Int) ^ p ≤ 2 ^ (p + (c - 1) - 1) := pow_mono (by omega)
      omega
  obtain ⟨r, hr⟩ := hXm
  have ec : (2 : Int) ^ c = 2 * 2 ^ (c - 1) := pow_dbl hc
  have hW := pow_pos2 (c - 1)
  refine ⟨2 * q - r, c - 1, ?_, ?_, ?_⟩
  · rw [hq, ec, Int.sub_mul]
    rw [hr]
    have : q * (2 * 2 ^ (c - 1)) = 2 * q * 2 ^ (c - 1) := by rw [← Int.mul_assoc, Int.mul_comm q 2]
    omega
  · have e5 : rn p wNear (X + Y) - X = (2 * q - r) * 2 ^ (c - 1) := by
      rw [hq, ec, Int.sub_mul]
      rw [hr]
      have : q * (2 * 2 ^ (c - 1)) = 2 * q * 2 ^ (c - 1) := by rw [← Int.mul_assoc, Int.mul_comm q 2]
      omega
    have e6 : -(2 ^ p) * 2 ^ (c - 1) ≤ (2 * q - r) * 2 ^ (c - 1) := by
      have i1 : (2 ^ p - 1 : Int) ≤ (2 ^ p - 1) * 2 ^ (c - 1) := by
        have := pow_pos2 p
        have := Int.mul_le_mul_of_nonneg_left (show (1 : Int) ≤ 2 ^ (c - 1) by omega) (show (0 : Int) ≤ 2 ^ p - 1 by omega)
        omega
      rw [Int.sub_mul, Int.one_mul] at i1
      rw [Int.neg_mul]
      omega
    exact Int.le_of_mul_le_mul_right e6 hW
  · have e5 : rn p wNear (X + Y) - X = (2 * q - r) * 2 ^ (c - 1) := by
      rw [hq, ec, Int.sub_mul]
      rw [hr]
      have : q * (2 * 2 ^ (c - 1)) = 2 * q * 2 ^ (c - 1) := by rw [← Int.mul_assoc, Int.mul_comm q 2]
      omega
    have e6 : (2 * q - r) * 2 ^ (c - 1) ≤ 2 ^ p * 2 ^ (c - 1) := by
      have i1 : (2 ^ p - 1 : Int) ≤ (2 ^ p - 1) * 2 ^ (c - 1) := by
        have := pow_pos2 p
        have := Int.mul_le_mul_of_nonneg_left (show (1 : Int) ≤ 2 ^ (c - 1) by omega) (show (0 : Int) ≤ 2 ^ p - 1 by omega)
        omega
      rw [Int.sub_mul, Int.one_mul] at i1
      omega
    exact Int.le_of_mul_le_mul_right e6 hW
theorem Fit.scale {x : Int} {k : Nat} (h : Fit p x) : Fit p (x * 2 ^ k) := by
  obtain ⟨q, j, rfl, h1, h2⟩ := h
  exact ⟨q, j + k, by rw [Int.mul_assoc, ← Int.pow_add], h1, h2⟩
/-- a factor 2 ^ k may go -/
theorem Fit.unscale {x : Int} {k : Nat} (hp : 1 ≤ p) (h : Fit p (x * 2 ^ k)) : Fit p x := by
  have e := h.rn hp (w := wNear)
  rw [rn_scale hp] at e
  have h2 := Int.eq_of_mul_eq_mul_right (by have := pow_pos2 k; omega) e
  rw [← h2]
  exact fit_rn hp
/-- y lies below 2 ^ (p + k), and is a multiple of 2 ^ k, for one k -/
theorem step_of {y : Int} (hp : 1 ≤ p) (hy : Fit p y) : ∃ (k : Nat) (Y : Int), y = Y * 2 ^ k ∧ -(2 ^ p) < Y ∧ Y < 2 ^ p ∧ (k = 0 ∨ (2 : Int) ^ (p + k - 1) ≤ y ∨ y ≤ -(2 ^ (p + k - 1))) := by
  by_cases hb : Ev.bits y ≤ p
  · obtain ⟨h1, h2⟩ := few hb
    exact ⟨0, y, by simp, h1, h2, .inl rfl⟩
  · obtain ⟨c, hc, hx1, hx2, hx3⟩ := place hp (show p < Ev.bits y by omega)
    obtain ⟨q, e⟩ := hy.mult hp hx1
    have hW := pow_pos2 c
    refine ⟨c, q, e, ?_, ?_, .inr hx1⟩
    · rw [Int.pow_add] at hx2
      rw [e, ← Int.neg_mul] at hx2
      exact Int.lt_of_mul_lt_mul_right hx2 (by omega)
    · rw [Int.pow_add] at hx3
      rw [e] at hx3
      exact Int.lt_of_mul_lt_mul_right hx3 (by omega)
/-- a greater one that fits is a multiple of the lesser one's step -/
theorem step_ge {x y : Int} {k : Nat} (hp : 1 ≤ p) (hx : Fit p x) (hk : k = 0 ∨ (2 : Int) ^ (p + k - 1) ≤ y ∨ y ≤ -(2 ^ (p + k - 1))) (h : (y ≤ x ∨ y ≤ -x) ∧ (-y ≤ x ∨ -y ≤ -x)) : ∃ X, x = X * 2 ^ k := by
  rcases hk with rfl | hk
  · exact ⟨x, by simp⟩
  · exact hx.mult hp (by omega)
/-- three deeds -/
theorem fast1 {x y X Y : Int} {k : Nat} (hp : 1 ≤ p) (hx : Fit p x) (ex : x = X * 2 ^ k) (ey : y = Y * 2 ^ k) (h1 : -(2 ^ p) < Y) (h2 : Y < 2 ^ p) : Fit p (rn p wNear (x + y) - x) ∧ Fit p (x + y - rn p wNear (x + y)) := by
  subst ex ey
  obtain ⟨a, b⟩ := fast0 hp (hx.unscale hp) h1 h2
  rw [← Int.add_mul, rn_scale hp, ← Int.sub_mul, ← Int.sub_mul]
  exact ⟨a.scale, b.scale⟩
theorem fast_deeds {x y : Int} (hp : 1 ≤ p) (hy : Fit p y) (h : Fit p (rn p wNear (x + y) - x) ∧ Fit p (x + y - rn p wNear (x + y))) : rn p wNear (y - rn p wNear (rn p wNear (x + y) - x)) = x + y - rn p wNear (x + y) := by
  rw [h.1.rn hp, show y - (rn p wNear (x + y) - x) = x + y - rn p wNear (x + y) by omega, h.2.rn hp]
/-- what a sum loses by near fits -/
theorem sum_loss_fit {x y : Int} (hp : 1 ≤ p) (hx : Fit p x) (hy : Fit p y) : Fit p (x + y - rn p wNear (x + y)) := by
  by_cases h : (y ≤ x ∨ y ≤ -x) ∧ (-y ≤ x ∨ -y ≤ -x)
  · obtain ⟨k, Y, ey, h1, h2, hk⟩ := step_of hp hy
    obtain ⟨X, ex⟩ := step_ge hp hx hk h
    exact (fast1 hp hx ex ey h1 h2).2
  · obtain ⟨k, Y, ey, h1, h2, hk⟩ := step_of hp hx
    obtain ⟨X, ex⟩ := step_ge hp hy hk (by omega)
    have := (fast1 hp hy ex ey h1 h2).2
    rw [Int.add_comm y x] at this
    exact this
/-! ### six deeds -/
def tsS (p : Nat) (x y : Int) : Int := rn p wNear (x + y)
def tsX (p : Nat) (x y : Int) : Int := rn p wNear (tsS p x y - y)
def tsY (p : Nat) (x y : Int) : Int := rn p wNear (tsS p x y - tsX p x y)
def tsU (p : Nat) (x y : Int) : Int := rn p wNear (x - tsX p x y)
def tsV (p : Nat) (x y : Int) : Int := rn p wNear (y - tsY p x y)
def tsT (p : Nat) (x y : Int) : Int := rn p wNear (tsU p x y + tsV p x y)
theorem ts_scale {x y : Int} {k : Nat} (hp : 1 ≤ p) : tsS p (x * 2 ^ k) (y * 2 ^ k) = tsS p x y * 2 ^ k ∧ tsT p (x * 2 ^ k) (y * 2 ^ k) = tsT p x y * 2 ^ k := by
  have e1 : tsS p (x * 2 ^ k) (y * 2 ^ k) = tsS p x y * 2 ^ k := by
    unfold tsS
    rw [← Int.add_mul, rn_scale hp]
  have e2 : tsX p (x * 2 ^ k) (y * 2 ^ k) = tsX p x y * 2 ^ k := by
    unfold tsX
    rw [e1, ← Int.sub_mul, rn_scale hp]
  have e3 : tsY p (x * 2 ^ k) (y * 2 ^ k) = tsY p x y * 2 ^ k := by
    unfold tsY
    rw [e1, e2, ← Int.sub_mul, rn_scale hp]
  have e4 : tsU p (x * 2 ^ k) (y * 2 ^ k) = tsU p x y * 2 ^ k := by
    unfold tsU
    rw [e2, ← Int.sub_mul, rn_scale hp]
  have e5 : tsV p (x * 2 ^ k) (y * 2 ^ k) = tsV p x y * 2 ^ k := by
    unfold tsV
    rw [e3, ← Int.sub_mul, rn_scale hp]
  refine ⟨e1, ?_⟩
  unfold tsT
  rw [e4, e5, ← Int.add_mul, rn_scale hp]
/-- the second one is greater in size, or as great -/
theorem two_a {x y : Int} (hp : 1 ≤ p) (hx : Fit p x) (hy : Fit p y) (h : (x ≤ y ∨ x ≤ -y) ∧ (-x ≤ y ∨ -x ≤ -y)) : tsT p x y = x + y - tsS p x y := by
  obtain ⟨k, X, ex, h1, h2, hk⟩ := step_of hp hx
  obtain ⟨Y, ey⟩ := step_ge hp hy hk h
  obtain ⟨f1, f2⟩ := fast1 hp hy ey ex h1 h2
  rw [Int.add_comm y x] at f1 f2
  unfold tsT tsU tsV tsY tsX
  have eS : rn p wNear (x + y) = tsS p x y := rfl
  rw [eS] at f1 f2
  generalize tsS p x y = s at *
  rw [f1.rn hp, show s - (s - y) = y by omega, hy.rn hp, Int.sub_self, rn_zero, Int.add_zero, show x - (s - y) = x + y - s by omega, f2.rn hp, f2.rn hp]
/-- .. is less -/
theorem two_b0 {x y : Int} (hp : 2 ≤ p) (hx : Fit p x) (h1 : -(2 ^ p) < y) (h2 : y < 2 ^ p) (h : (y ≤ x ∨ y ≤ -x) ∧ (-y ≤ x ∨ -y ≤ -x)) : tsT p x y = x + y - tsS p x y := by
  have hp1 : 1 ≤ p := by omega
  have hy : Fit p y := fit_small (by omega) (by omega)
  have hloss := (fast0 hp1 hx h1 h2).2
  by_cases hb : Ev.bits (x + y) ≤ p
  · have es : tsS p x y = x + y := rn_id hb
    have ex : tsX p x y = x := by
      unfold tsX
      rw [es, show x + y - y = x by omega, hx.rn hp1]
    have ey : tsY p x y = y := by
      unfold tsY
      rw [es, ex, show x + y - x = y by omega, hy.rn hp1]
    unfold tsT tsU tsV
    rw [ex, ey, es, Int.sub_self, Int.sub_self, rn_zero, Int.add_zero, rn_zero, Int.sub_self]
  obtain ⟨c, hc, hw1, hw2, hw3⟩ := place hp1 (show p < Ev.bits (x + y) by omega)
  obtain ⟨e1, e2⟩ := near_err (p := p) (j := c) (n := x + y) hp1 (by omega) (by omega)
  have eS : rn p wNear (x + y) = tsS p x y := rfl
  rw [eS] at e1 e2 hloss
  have hs : Fit p (tsS p x y) := fit_rn hp1
  have hpc : (2 : Int) ^ p ≤ 2 ^ (p + c - 1) := pow_mono (by omega)
  -- the second pair of three deeds
  obtain ⟨g1, g2⟩ := fast0 (X := tsS p x y) (Y := -y) hp1 hs (by omega) (by omega)
  rw [← Int.sub_eq_add_neg] at g1 g2
  have eX : rn p wNear (tsS p x y - y) = tsX p x y := rfl
  rw [eX] at g1 g2
  have ey : tsY p x y = tsS p x y - tsX p x y := by
    unfold tsY
    exact Fit.rn (by have := g1.neg; rw [show tsS p x y - tsX p x y = -(tsX p x y - tsS p x y) by omega]; exact this) hp1
  have ev : tsV p x y = y - (tsS p x y - tsX p x y) := by
    unfold tsV
    rw [ey]
    exact Fit.rn (by have := g2.neg; rw [show y - (tsS p x y - tsX p x y) = -(tsS p x y - y - tsX p x y) by omega]; exact this) hp1
  have hu : Fit p (x - tsX p x y) := by
    obtain ⟨n1, n2⟩ := near_best (p := p) (x := tsS p x y - y) (f := x) hp1 hx
    rw [eX] at n1 n2
    have c4 : (2 : Int) ^ c ≤ 4 * 2 ^ (c - 2) := by
      have : (2 : Int) ^ c ≤ 2 ^ ((c - 2) + 2) := pow_mono (by omega)
      rw [Int.pow_add] at this
      omega
    have p4 : (4 : Int) * 2 ^ (c - 2) ≤ 2 ^ p * 2 ^ (c - 2) := by
      have : (2 : Int) ^ 2 ≤ 2 ^ p := pow_mono hp
      exact Int.mul_le_mul_of_nonneg_right (by omega) (Int.le_of_lt (pow_pos2 _))
    have hW := pow_pos2 (c - 2)
    -- both are multiples of 2 ^ (c - 2)
    have hmul : (∃ r, x = r * 2 ^ (c - 2)) ∧ ∃ r, tsX p x y = r * 2 ^ (c - 2) := by
      by_cases hc2 : c ≤ 2
      · have : c - 2 = 0 := by omega
        rw [this]
        exact ⟨⟨x, by simp⟩, ⟨tsX p x y, by simp⟩⟩
      · have i1 : (2 : Int) ^ (p + c - 1) = 4 * 2 ^ (p + (c - 2) - 1) := by
          rw [show p + c - 1 = (p + (c - 2) - 1) + 2 by omega, Int.pow_add]
          omega
        have i2 : (2 : Int) ^ c ≤ 2 ^ (p + (c - 2)) := pow_mono (by omega)
        have i3 : (2 : Int) ^ (p + (c - 2)) = 2 * 2 ^ (p + (c - 2) - 1) := pow_dbl (by omega)
        refine ⟨hx.mult hp1 ?_, ?_⟩
        · omega
        · exact rn_mult (p := p) (j := c - 2) (w := wNear) (n := tsS p x y - y) (by omega) hp1
    obtain ⟨⟨r1, q1⟩, r2, q2⟩ := hmul
    have e3 : x - tsX p x y = (r1 - r2) * 2 ^ (c - 2) := by rw [Int.sub_mul, ← q1, ← q2]
    refine ⟨r1 - r2, c - 2, e3, ?_, ?_⟩
    · refine Int.le_of_mul_le_mul_right ?_ hW
      rw [← e3, Int.neg_mul]
      omega
    · refine Int.le_of_mul_le_mul_right ?_ hW
      rw [← e3]
      omega
  unfold tsT
  have eu : tsU p x y = x - tsX p x y := hu.rn hp1
  rw [eu, ev, show x - tsX p x y + (y - (tsS p x y - tsX p x y)) = x + y - tsS p x y by omega]
  exact hloss.rn hp1
/-- six deeds tell what a sum loses (Knuth) -/
theorem two_all {x y : Int} (hp : 2 ≤ p) (hx : Fit p x) (hy : Fit p y) : tsT p x y = x + y - tsS p x y := by
  have hp1 : 1 ≤ p := by omega
  by_cases h : (x ≤ y ∨ x ≤ -y) ∧ (-x ≤ y ∨ -x ≤ -y)
  · exact two_a hp1 hx hy h
  · obtain ⟨k, Y, ey, h1, h2, hk⟩ := step_of hp1 hy
    obtain ⟨X, ex⟩ := step_ge hp1 hx hk (by omega)
    subst ex ey
    have hW := pow_pos2 k
    have hs : ∀ a b : Int, a * 2 ^ k ≤ b * 2 ^ k → a ≤ b := fun a b h => Int.le_of_mul_le_mul_right h hW
    have hh : (Y ≤ X ∨ Y ≤ -X) ∧ (-Y ≤ X ∨ -Y ≤ -X) := by
      rw [← Int.neg_mul, ← Int.neg_mul] at h
      have t1 := hs Y X
      have t2 := hs Y (-X)
      have t3 := hs (-Y) X
      have t4 := hs (-Y) (-X)
      rw [Int.neg_mul] at t2 t3 t4
      rw [Int.neg_mul] at t4
      rw [Int.neg_mul, Int.neg_mul] at h
      refine ⟨?_, ?_⟩
      · by_cases u : Y * 2 ^ k ≤ X * 2 ^ k
        · exact .inl (t1 u)
        · exact .inr (t2 (by omega))
      · by_cases u : -(Y * 2 ^ k) ≤ X * 2 ^ k
        · exact .inl (t3 u)
        · exact .inr (t4 (by omega))
    obtain ⟨e1, e2⟩ := ts_scale (p := p) (x := X) (y := Y) (k := k) hp1
    rw [e1, e2, two_b0 hp (hx.unscale hp1) h1 h2 hh, Int.sub_mul, Int.add_mul]
end Ev
namespace Ev
open PySem
def fsZ (p : Nat) (x y : Int) : Int := rn p wNear (tsS p x y - x)
def fsT (p : Nat) (x y : Int) : Int := rn p wNear (y - fsZ p x y)
structure TsSk (p : Nat) (x y b : Int) : Prop where
  s : Sk 100002 (tsS p x y) b
  sy : Sk 100003 (tsS p x y - y) b
  xa : Sk 100004 (tsX p x y) b
  sx : Sk 100005 (tsS p x y - tsX p x y) b
  ya : Sk 100006 (tsY p x y) b
  xx : Sk 100007 (x - tsX p x y) b
  yy : Sk 100007 (y - tsY p x y) b
  u : Sk 100008 (tsU p x y) b
  v : Sk 100008 (tsV p x y) b
  uv : Sk 100009 (tsU p x y + tsV p x y) b
theorem tsSk {p : Nat} {x y b : Int} (hp : 1 ≤ p) (hx : Sk 100000 x b) (hy : Sk 100000 y b) : TsSk p x y b := by
  have s1 : Sk 100002 (tsS p x y) b := (hx.add hy).rn hp
  have s2 : Sk 100003 (tsS p x y - y) b := s1.sub (hy.mono (by omega))
  have s3 : Sk 100004 (tsX p x y) b := s2.rn hp
  have s4 : Sk 100005 (tsS p x y - tsX p x y) b := (s1.mono (by omega)).sub s3
  have s5 : Sk 100006 (tsY p x y) b := s4.rn hp
  have s6 : Sk 100007 (x - tsX p x y) b := (hx.mono (by omega)).sub (s3.mono (by omega))
  have s7 : Sk 100007 (y - tsY p x y) b := (hy.mono (by omega)).sub s5
  have s8 : Sk 100008 (tsU p x y) b := s6.rn hp
  have s9 : Sk 100008 (tsV p x y) b := s7.rn hp
  exact ⟨s1, s2, s3, s4, s5, s6, s7, s8, s9, s8.add s9⟩
structure FsSk (p : Nat) (x y b : Int) : Prop where
  s : Sk 100002 (tsS p x y) b
  sx : Sk 100003 (tsS p x y - x) b
  z : Sk 100004 (fsZ p x y) b
  yz : Sk 100005 (y - fsZ p x y) b
theorem fsSk {p : Nat} {x y b : Int} (hp : 1 ≤ p) (hx : Sk 100000 x b) (hy : Sk 100000 y b) : FsSk p x y b := by
  have s1 : Sk 100002 (tsS p x y) b := (hx.add hy).rn hp
  have s2 : Sk 100003 (tsS p x y - x) b := s1.sub (hx.mono (by omega))
  have s3 : Sk 100004 (fsZ p x y) b := s2.rn hp
  exact ⟨s1, s2, s3, (hy.mono (by omega)).sub s3⟩
theorem x_t30 {T : Sto} {a b c : D} : ixW T (.v (.tup [a, b, c])) (.v (.int 0)) = some (.v a) := rfl
theorem x_t32 {T : Sto} {a b c : D} : ixW T (.v (.tup [a, b, c])) (.v (.int 2)) = some (.v c) := rfl
/-- a common base -/
theorem N_base {x b : Int} {j : Nat} : N (x * 2 ^ j) b = N x (b + j) := congrArg pr num_shift
/-- a number of the format, over the base - 3000 -/
def isNm (p : Nat) (d : D) : Prop := ∃ x, d = N x (-3000) ∧ Fit p x ∧ bits x ≤ 9000
theorem isNm_fit {p : Nat} {x b : Int} (q1 : -(2 ^ p) ≤ x) (q2 : x ≤ 2 ^ p) (hp : p ≤ 2999) (h1 : -3000 ≤ b) (h2 : b ≤ 3000) : isNm p (N x b) := by
  have hb : bits x ≤ p + 1 := small_bits (by rw [Int.pow_succ]; have := pow_pos2 p; omega) (by rw [Int.pow_succ]; have := pow_pos2 p; omega)
  refine ⟨x * 2 ^ (b + 3000).toNat, ?_, ⟨x, (b + 3000).toNat, rfl, q1, q2⟩, ?_⟩
  · rw [N_base]
    congr 1
    omega
  · by_cases h0 : x = 0
    · rw [h0, Int.zero_mul, bits_zero]
      omega
    · rw [bits_mul_pow h0]
      omega
theorem isNm_of {p : Nat} {x b : Int} (h : bits x ≤ p) (hp : p ≤ 2999) (h1 : -3000 ≤ b) (h2 : b ≤ 3000) : isNm p (N x b) := by
  obtain ⟨q1, q2⟩ := few h
  exact isNm_fit (by omega) (by omega) hp h1 h2
theorem Nm_sk {x : Int} (h : bits x ≤ 9000) : Sk 100000 x (-3000) := ⟨by omega, by omega, by omega⟩
theorem isNm_0 {p : Nat} : isNm p (.tup [.int 0, .int 0]) := ⟨0, rfl, Fit.zero, by rw [bits_zero]; omega⟩
theorem num_sign {z b : Int} : (0 ≤ (num z b).1) = (0 ≤ z) := by
  apply propext
  by_cases h : z = 0
  · subst h
    exact ⟨fun _ => by omega, fun _ => by rw [num_zero]; decide⟩
  · obtain ⟨k, m, ho, e1, e2⟩ := num_parts (b := b) h
    rw [e2]
    have := pow_pos2 k
    constructor
    · intro hm
      rw [e1]
      exact Int.mul_nonneg hm (by omega)
    · intro hz
      show 0 ≤ m
      rw [e1] at hz
      exact Int.le_of_mul_le_mul_right (by rw [Int.zero_mul]; exact hz) this
theorem num_sign1 {z b : Int} : (0 < (num z b).1) = (0 < z) := by
  apply propext
  have h1 := @num_sign (-z) b
  rw [num_neg] at h1
  have h2 : (0 ≤ -(num z b).1) ↔ (0 ≤ -z) := iff_of_eq h1
  omega
theorem N_abs {x b : Int} : D.tup [.int (if (num x b).1 < 0 then -(num x b).1 else (num x b).1), .int (num x b).2] = N (if x < 0 then -x else x) b := by
  have h := @num_sign x b
  have h2 : (0 ≤ (num x b).1) ↔ (0 ≤ x) := iff_of_eq h
  by_cases h0 : x < 0
  · rw [if_pos h0, if_pos (by omega), N_neg]
  · rw [if_neg h0, if_neg (by omega)]
    rfl
/-- a multiple of the lesser one's step: three deeds do -/
theorem fast_mult {p : Nat} {x y b : Int} (hp : 1 ≤ p) (hx : Fit p x) (hy : Fit p y) (hx0 : x ≠ 0) (hy0 : y ≠ 0) (h : (num y b).2 + (bits (num y b).1 : Nat) - p ≤ (num x b).2) : fsT p x y = x + y - tsS p x y := by
  have hfy := hy.bits (b := b) hp
  obtain ⟨i, m, ho, e1, e2⟩ := num_parts (b := b) hx0
  obtain ⟨j, q, ho2, e3, e4⟩ := num_parts (b := b) hy0
  rw [e2, e4] at h
  rw [e4] at hfy
  simp only at h hfy
  have hq0 : q ≠ 0 := by omega
  obtain ⟨f1, f2⟩ := few hfy
  -- the step's exponent
  obtain ⟨k, hk⟩ : ∃ k : Nat, k = j + bits q - p := ⟨_, rfl⟩
  have hki : k ≤ i := by omega
  have hkj : k ≤ j := by omega
  obtain ⟨X, ex⟩ := mul_low (q := m) hki
  have hqb : q * 2 ^ (j - k) < 2 ^ p ∧ -(2 ^ p) < q * 2 ^ (j - k) := by
    have : bits (q * 2 ^ (j - k)) ≤ p := by rw [bits_mul_pow hq0]; omega
    obtain ⟨a, b⟩ := few this
    exact ⟨b, a⟩
  have ey : y = q * 2 ^ (j - k) * 2 ^ k := by
    rw [Int.mul_assoc, ← Int.pow_add, e3]
    congr 2
    omega
  exact fast_deeds hp hy (fast1 hp hx (e1.trans ex) ey hqb.2 hqb.1)
theorem fast_ge {p : Nat} {x y : Int} (hp : 1 ≤ p) (hx : Fit p x) (hy : Fit p y) (h : (y ≤ x ∨ y ≤ -x) ∧ (-y ≤ x ∨ -y ≤ -x)) : fsT p x y = x + y - tsS p x y := by
  obtain ⟨k, Y, ey, h1, h2, hk⟩ := step_of hp hy
  obtain ⟨X, ex⟩ := step_ge hp hx hk h
  exact fast_deeds hp hy (fast1 hp hx ex ey h1 h2)
theorem fast_x0 {p : Nat} {y : Int} (hp : 1 ≤ p) (hy : Fit p y) : fsT p 0 y = 0 + y - tsS p 0 y := by
  obtain ⟨k, Y, ey, h1, h2, hk⟩ := step_of hp hy
  exact fast_deeds hp hy (fast1 hp Fit.zero (X := 0) (k := k) (by simp) ey h1 h2)
end Ev
/-! What a value may be: ranges, numbers of some size, lists of such. -/
namespace Ev
open PySem
inductive A where
  | int (lo hi : Int) (odd : Bool) | num (k : Nat) (lo hi : Int) (nz : Bool) | bl (b : Option Bool) | str (xs : List Str) | non | bag | any
  | tup (as : List A) | tpl (a : A) (lo hi : Nat) | lsx (as : List A) | lst (a : A) (lo hi : Nat) | or (as : List A)
  deriving Inhabited
mutual
def A.ok : A → D → Prop
  | .int lo hi o, d => ∃ i : Int, d = .int i ∧ lo ≤ i ∧ i ≤ hi ∧ (o = true → i % 2 = 1)
  | .num k lo hi nz, d => ∃ x b : Int, d = N x b ∧ bits x ≤ k ∧ lo ≤ b ∧ b ≤ hi ∧ (nz = true → x ≠ 0)
  | .bl b, d => ∃ r, d = .bl r ∧ (b = none ∨ b = some r)
  | .str xs, d => ∃ s, d = .str s ∧ s ∈ xs
  | .non, d => d = .non
  | .bag, d => d = .loc 1
  | .any, d => True
  | .tup as, d => ∃ ds, d = .tup ds ∧ A.oks as ds
  | .tpl a lo hi, d => ∃ ds, d = .tup ds ∧ lo ≤ ds.length ∧ ds.length ≤ hi ∧ ∀ x, x ∈ ds → A.ok a x
  | .lsx as, d => ∃ ds, d = .lst ds ∧ A.oks as ds
  | .lst a lo hi, d => ∃ ds, d = .lst ds ∧ lo ≤ ds.length ∧ ds.length ≤ hi ∧ ∀ x, x ∈ ds → A.ok a x
  | .or as, d => A.oko as d
def A.oks : List A → List D → Prop
  | [], ds => ds = []
  | a :: as, ds => ∃ x xs, ds = x :: xs ∧ A.ok a x ∧ A.oks as xs
def A.oko : List A → D → Prop
  | [], _ => False
  | a :: as, d => A.ok a d ∨ A.oko as d
end
theorem oko_mem {as : List A} {d : D} : A.oko as d ↔ ∃ a, a ∈ as ∧ a.ok d := by
  induction as with
  | nil => simp [A.oko]
  | cons a as ih => rw [A.oko, ih]; simp
theorem oks_nil : A.oks [] [] := by rw [A.oks]
theorem oks_cons {a : A} {as : List A} {x : D} {xs : List D} (h : a.ok x) (h2 : A.oks as xs) : A.oks (a :: as) (x :: xs) := by
  rw [A.oks]
  exact ⟨x, xs, rfl, h, h2⟩
theorem oks_len {as : List A} {ds : List D} (h : A.oks as ds) : ds.length = as.length := by
  induction as generalizing ds with
  | nil => rw [A.oks] at h; rw [h]; rfl
  | cons a as ih =>
    rw [A.oks] at h
    obtain ⟨x, xs, rfl, _, h2⟩ := h
    rw [List.length_cons, List.length_cons, ih h2]
theorem oks_app {as bs : List A} {ds es : List D} (h : A.oks as ds) (h2 : A.oks bs es) : A.oks (as ++ bs) (ds ++ es) := by
  induction as generalizing ds with
  | nil => rw [A.oks] at h; rw [h]; exact h2
  | cons a as ih =>
    rw [A.oks] at h
    obtain ⟨x, xs, rfl, h1, h3⟩ := h
    exact oks_cons h1 (ih h3)
theorem oks_get {as : List A} {ds : List D} (h : A.oks as ds) {i : Nat} {a : A} (e : as[i]? = some a) : ∃ d, ds[i]? = some d ∧ a.ok d := by
  induction as generalizing ds i with
  | nil => simp at e
  | cons b as ih =>
    rw [A.oks] at h
    obtain ⟨x, xs, rfl, h1, h3⟩ := h
    cases i with
    | zero =>
      simp at e
      subst e
      exact ⟨x, rfl, h1⟩
    | succ i =>
      simp at e
      obtain ⟨d, h4, h5⟩ := ih h3 e
      exact ⟨d, by simpa using h4, h5⟩
theorem oks_mem {as : List A} {ds : List D} (h : A.oks as ds) {d : D} (m : d ∈ ds) : ∃ a, a ∈ as ∧ a.ok d := by
  induction as generalizing ds with
  | nil => rw [A.oks] at h; rw [h] at m; cases m
  | cons b as ih =>
    rw [A.oks] at h
    obtain ⟨x, xs, rfl, h1, h3⟩ := h
    cases m with
    | head => exact ⟨b, List.mem_cons_self, h1⟩
    | tail _ m =>
      obtain ⟨a, h4, h5⟩ := ih h3 m
      exact ⟨a, List.mem_cons_of_mem _ h4, h5⟩
theorem oks_drop {as : List A} {ds : List D} (h : A.oks as ds) (n : Nat) : A.oks (as.drop n) (ds.drop n) := by
  induction n generalizing as ds with
  | zero => exact h
  | succ n ih =>
    cases as with
    | nil => rw [A.oks] at h; rw [h]; simp; exact oks_nil
    | cons a as =>
      rw [A.oks] at h
      obtain ⟨x, xs, rfl, h1, h3⟩ := h
      exact ih h3
theorem oks_take {as : List A} {ds : List D} (h : A.oks as ds) (n : Nat) : A.oks (as.take n) (ds.take n) := by
  induction n generalizing as ds with
  | zero => simp; exact oks_nil
  | succ n ih =>
    cases as with
    | nil => rw [A.oks] at h; rw [h]; simp; exact oks_nil
    | cons a as =>
      rw [A.oks] at h
      obtain ⟨x, xs, rfl, h1, h3⟩ := h
      exact oks_cons h1 (ih h3)
theorem oks_rev {as : List A} {ds : List D} (h : A.oks as ds) : A.oks as.reverse ds.reverse := by
  induction as generalizing ds with
  | nil => rw [A.oks] at h; rw [h]; exact oks_nil
  | cons a as ih =>
    rw [A.oks] at h
    obtain ⟨x, xs, rfl, h1, h3⟩ := h
    rw [List.reverse_cons, List.reverse_cons]
    exact oks_app (ih h3) (oks_cons h1 oks_nil)
theorem oks_rep {as : List A} {ds : List D} (h : A.oks as ds) (n : Nat) : A.oks (List.replicate n as).flatten (List.replicate n ds).flatten := by
  induction n with
  | zero => exact oks_nil
  | succ n ih => rw [List.replicate_succ, List.replicate_succ, List.flatten_cons, List.flatten_cons]; exact oks_app h ih
/-! ### equality, decided -/
mutual
def A.eq : A → A → Bool
  | .int a b o, .int c d q => decide (a = c) && decide (b = d) && (o == q)
  | .num k a b o, .num j c d q => decide (k = j) && decide (a = c) && decide (b = d) && (o == q)
  | .bl a, .bl b => decide (a = b)
  | .str xs, .str ys => decide (xs = ys)
  | .non, .non => true
  | .bag, .bag => true
  | .any, .any => true
  | .tup as, .tup bs => A.eqs as bs
  | .tpl a l h, .tpl b m g => A.eq a b && decide (l = m) && decide (h = g)
  | .lsx as, .lsx bs => A.eqs as bs
  | .lst a l h, .lst b m g => A.eq a b && decide (l = m) && decide (h = g)
  | .or as, .or bs => A.eqs as bs
  | _, _ => false
def A.eqs : List A → List A → Bool
  | [], [] => true
  | a :: as, b :: bs => A.eq a b && A.eqs as bs
  | _, _ => false
end
mutual
theorem A.eq_ok : ∀ a b : A, A.eq a b = true → a = b
  | .int a b o, x, h => by cases x <;> simp_all [A.eq]
  | .num k a b o, x, h => by cases x <;> simp_all [A.eq]
  | .bl a, x, h => by cases x <;> simp_all [A.eq]
  | .str xs, x, h => by cases x <;> simp_all [A.eq]
  | .non, x, h => by cases x <;> simp_all [A.eq]
  | .bag, x, h => by cases x <;> simp_all [A.eq]
  | .any, x, h => by cases x <;> simp_all [A.eq]
  | .tup as, x, h => by
    cases x <;> simp only [A.eq] at h <;> first | (exact congrArg _ (A.eqs_ok _ _ h)) | cases h
  | .tpl a l g, x, h => by
    cases x <;> simp only [A.eq, Bool.and_eq_true, decide_eq_true_eq] at h <;> first | (rw [A.eq_ok _ _ h.1.1, h.1.2, h.2]) | cases h
  | .lsx as, x, h => by
    cases x <;> simp only [A.eq] at h <;> first | (exact congrArg _ (A.eqs_ok _ _ h)) | cases h
  | .lst a l g, x, h => by
    cases x <;> simp only [A.eq, Bool.and_eq_true, decide_eq_true_eq] at h <;> first | (rw [A.eq_ok _ _ h.1.1, h.1.2, h.2]) | cases h
  | .or as, x, h => by
    cases x <;> simp only [A.eq] at h <;> first | (exact congrArg _ (A.eqs_ok _ _ h)) | cases h
theorem A.eqs_ok : ∀ as bs : List A, A.eqs as bs = true → as = bs
  | [], [], _ => rfl
  | [], b :: bs, h => by simp [A.eqs] at h
  | a :: as, [], h => by simp [A.eqs] at h
  | a :: as, b :: bs, h => by
    rw [A.eqs, Bool.and_eq_true] at h
    rw [A.eq_ok _ _ h.1, A.eqs_ok _ _ h.2]
end
/-! ### views, hulls -/
def mnI (a b : Int) : Int := if b < a then b else a
def mxI (a b : Int) : Int := if a < b then b else a
def mnN (a b : Nat) : Nat := if b < a then b else a
def mxN (a b : Nat) : Nat := if a < b then b else a
theorem mnI_l {a b : Int} : mnI a b ≤ a := by unfold mnI; split <;> omega
theorem mnI_r {a b : Int} : mnI a b ≤ b := by unfold mnI; split <;> omega
theorem mxI_l {a b : Int} : a ≤ mxI a b := by unfold mxI; split <;> omega
theorem mxI_r {a b : Int} : b ≤ mxI a b := by unfold mxI; split <;> omega
theorem mnN_l {a b : Nat} : mnN a b ≤ a := by unfold mnN; split <;> omega
theorem mnN_r {a b : Nat} : mnN a b ≤ b := by unfold mnN; split <;> omega
theorem mxN_l {a b : Nat} : a ≤ mxN a b := by unfold mxN; split <;> omega
theorem mxN_r {a b : Nat} : b ≤ mxN a b := by unfold mxN; split <;> omega
def bitsR (a b : Int) : Nat := mxN (bits a) (bits b)
theorem bits_range {a b i : Int} (h1 : a ≤ i) (h2 : i ≤ b) : bits i ≤ bitsR a b := by
  have ha : a.natAbs < 2 ^ bits a := bits_le.mp (Nat.le_refl _)
  have hb : b.natAbs < 2 ^ bits b := bits_le.mp (Nat.le_refl _)
  have q1 : (2 : Nat) ^ bits a ≤ 2 ^ bitsR a b := Nat.pow_le_pow_right (by decide) mxN_l
  have q2 : (2 : Nat) ^ bits b ≤ 2 ^ bitsR a b := Nat.pow_le_pow_right (by decide) mxN_r
  exact bits_le.mpr (by omega)
def A.num? : A → Option (Nat × Int × Int × Bool)
  | .num k lo hi nz => some (k, lo, hi, nz)
  | .tup [.int a b o, .int c d _] => if o = true then some (bitsR a b, c, d, true) else if a = 0 ∧ b = 0 ∧ c = 0 ∧ d = 0 then some (0, 0, 0, false) else none
  | _ => none
theorem num?_ok {a : A} {k : Nat} {lo hi : Int} {nz : Bool} {d : D} (e : a.num? = some (k, lo, hi, nz)) (h : a.ok d) : (A.num k lo hi nz).ok d := by
  unfold A.num? at e
  split at e
  · simp only [Option.some.injEq, Prod.mk.injEq] at e
    obtain ⟨rfl, rfl, rfl, rfl⟩ := e
    exact h
  · rename_i a b o c d' q
    simp only [A.ok, A.oks] at h
    obtain ⟨ds, rfl, x, xs, rfl, ⟨i, rfl, h1, h2, h3⟩, y, ys, rfl, ⟨j, rfl, h4, h5, h6⟩, rfl⟩ := h
    split at e
    · simp only [Option.some.injEq, Prod.mk.injEq] at e
      obtain ⟨rfl, rfl, rfl, rfl⟩ := e
      rename_i ho
      have := h3 ho
      exact ⟨i, j, (N_odd this).symm, bits_range h1 h2, h4, h5, fun _ => by omega⟩
    · split at e
      · simp only [Option.some.injEq, Prod.mk.injEq] at e
        obtain ⟨rfl, rfl, rfl, rfl⟩ := e
        have e1 : i = 0 := by omega
        have e2 : j = 0 := by omega
        subst e1 e2
        exact ⟨0, 0, rfl, by rw [bits_zero]; omega, by omega, by omega, fun h => by cases h⟩
      · cases e
  · cases e
def isZ : A → Bool
  | .tup [.int a b _, .int c d _] => decide (a = 0 ∧ b = 0 ∧ c = 0 ∧ d = 0)
  | _ => false
def hullN (a b : A) : Option A := match a.num? with
  | some (k, l, h, z) => (match b.num? with
    | some (k', l', h', z') => some (.num (mxN k k') (mnI l l') (mxI h h') (z && z'))
    | none => none)
  | none => none
theorem hullN_l {a b c : A} {d : D} (e : hullN a b = some c) (h : a.ok d) : c.ok d := by
  unfold hullN at e
  split at e
  · rename_i ea
    split at e
    · simp only [Option.some.injEq] at e
      subst e
      obtain ⟨x, y, rfl, h1, h2, h3, h4⟩ := num?_ok ea h
      exact ⟨x, y, rfl, Nat.le_trans h1 mxN_l, Int.le_trans mnI_l h2, Int.le_trans h3 mxI_l, fun q => by rw [Bool.and_eq_true] at q; exact h4 q.1⟩
    · cases e
  · cases e
theorem hullN_r {a b c : A} {d : D} (e : hullN a b = some c) (h : b.ok d) : c.ok d := by
  unfold hullN at e
  split at e
  · split at e
    · rename_i eb
      simp only [Option.some.injEq] at e
      subst e
      obtain ⟨x, y, rfl, h1, h2, h3, h4⟩ := num?_ok eb h
      exact ⟨x, y, rfl, Nat.le_trans h1 mxN_r, Int.le_trans mnI_r h2, Int.le_trans h3 mxI_r, fun q => by rw [Bool.and_eq_true] at q; exact h4 q.2⟩
    · cases e
  · cases e
mutual
def A.hull : A → A → Option A
  | .int a b o, .int c d q => some (.int (mnI a c) (mxI b d) (o && q))
  | .bl a, .bl b => some (.bl (if a = b then a else none))
  | .str xs, .str ys => some (.str (xs ++ ys.filter fun y => !xs.contains y))
  | .non, .non => some .non
  | .bag, .bag => some .bag
  | .any, _ => some .any
  | .lsx as, .lsx bs => match A.hulls as bs with
    | some cs => some (.lsx cs)
    | none => none
  | .lst a l h, .lst b m g => match A.hull a b with
    | some c => some (.lst c (mnN l m) (mxN h g))
    | none => none
  | .tpl a l h, .tpl b m g => match A.hull a b with
    | some c => some (.tpl c (mnN l m) (mxN h g))
    | none => none
  | .tup as, .tup bs => if isZ (.tup as) = true ∨ isZ (.tup bs) = true then hullN (.tup as) (.tup bs) else match A.hulls as bs with
    | some cs => some (.tup cs)
    | none => none
  | a, b => hullN a b
def A.hulls : List A → List A → Option (List A)
  | [], [] => some []
  | a :: as, b :: bs => match A.hull a b with
    | some c => (match A.hulls as bs with
      | some cs => some (c :: cs)
      | none => none)
    | none => none
  | _, _ => none
end
mutual
theorem hull_l : ∀ (a b : A) {c : A} {d : D}, A.hull a b = some c → a.ok d → c.ok d
  | .int a b o, x, c, d, e, h => by
    cases x <;> simp only [A.hull, Option.some.injEq] at e <;> try (exact hullN_l e h)
    subst e
    obtain ⟨i, rfl, h1, h2, h3⟩ := h
    exact ⟨i, rfl, Int.le_trans mnI_l h1, Int.le_trans h2 mxI_l, fun q => by rw [Bool.and_eq_true] at q; exact h3 q.1⟩
  | .num k a b o, x, c, d, e, h => by
    cases x <;> simp only [A.hull] at e <;> exact hullN_l e h
  | .bl a, x, c, d, e, h => by
    cases x <;> simp only [A.hull, Option.some.injEq] at e <;> try (exact hullN_l e h)
    subst e
    obtain ⟨r, rfl, h1⟩ := h
    refine ⟨r, rfl, ?_⟩
    split
    · exact h1
    · exact .inl rfl
  | .str xs, x, c, d, e, h => by
    cases x <;> simp only [A.hull, Option.some.injEq] at e <;> try (exact hullN_l e h)
    subst e
    obtain ⟨s, rfl, h1⟩ := h
    exact ⟨s, rfl, List.mem_append_left _ h1⟩
  | .non, x, c, d, e, h => by
    cases x <;> simp only [A.hull, Option.some.injEq] at e <;> try (exact hullN_l e h)
    subst e
    exact h
  | .bag, x, c, d, e, h => by
    cases x <;> simp only [A.hull, Option.some.injEq] at e <;> try (exact hullN_l e h)
    subst e
    exact h
  | .any, x, c, d, e, h => by
    simp only [A.hull, Option.some.injEq] at e
    subst e
    trivial
  | .lsx as, x, c, d, e, h => by
    cases x <;> simp only [A.hull] at e <;> try (exact hullN_l e h)
    split at e <;> simp only [Option.some.injEq, reduceCtorEq] at e
    rename_i q
    subst e
    obtain ⟨ds, rfl, h1⟩ := h
    exact ⟨ds, rfl, hulls_l _ _ q h1⟩
  | .lst a l g, x, c, d, e, h => by
    cases x <;> simp only [A.hull] at e <;> try (exact hullN_l e h)
    split at e <;> simp only [Option.some.injEq, reduceCtorEq] at e
    rename_i q
    subst e
    obtain ⟨ds, rfl, h1, h2, h3⟩ := h
    exact ⟨ds, rfl, Nat.le_trans mnN_l h1, Nat.le_trans h2 mxN_l, fun y m => hull_l _ _ q (h3 y m)⟩
  | .tpl a l g, x, c, d, e, h => by
    cases x <;> simp only [A.hull] at e <;> try (exact hullN_l e h)
    split at e <;> simp only [Option.some.injEq, reduceCtorEq] at e
    rename_i q
    subst e
    obtain ⟨ds, rfl, h1, h2, h3⟩ := h
    exact ⟨ds, rfl, Nat.le_trans mnN_l h1, Nat.le_trans h2 mxN_l, fun y m => hull_l _ _ q (h3 y m)⟩
  | .tup as, x, c, d, e, h => by
    cases x <;> simp only [A.hull] at e <;> try (exact hullN_l e h)
    split at e
    · exact hullN_l e h
    split at e <;> simp only [Option.some.injEq, reduceCtorEq] at e
    rename_i q
    subst e
    obtain ⟨ds, rfl, h1⟩ := h
    exact ⟨ds, rfl, hulls_l _ _ q h1⟩
  | .or as, x, c, d, e, h => by
    simp only [A.hull] at e
    exact hullN_l e h
theorem hulls_l : ∀ (as bs : List A) {cs : List A} {ds : List D}, A.hulls as bs = some cs → A.oks as ds → A.oks cs ds
  | [], [], cs, ds, e, h => by
    simp only [A.hulls, Option.some.injEq] at e
    subst e
    exact h
  | [], b :: bs, cs, ds, e, h => by simp [A.hulls] at e
  | a :: as, [], cs, ds, e, h => by simp [A.hulls] at e
  | a :: as, b :: bs, cs, ds, e, h => by
    simp only [A.hulls] at e
    split at e <;> try (cases e; done)
    rename_i q
    split at e <;> simp only [Option.some.injEq, reduceCtorEq] at e
    rename_i q2
    subst e
    rw [A.oks] at h
    obtain ⟨x, xs, rfl, h1, h3⟩ := h
    exact oks_cons (hull_l _ _ q h1) (hulls_l _ _ q2 h3)
end
mutual
theorem hull_r : ∀ (b a : A) {c : A} {d : D}, A.hull a b = some c → b.ok d → c.ok d
  | .int a b o, x, c, d, e, h => by
    cases x <;> simp only [A.hull, Option.some.injEq] at e <;> try (exact hullN_r e h)
    · subst e
      obtain ⟨i, rfl, h1, h2, h3⟩ := h
      exact ⟨i, rfl, Int.le_trans mnI_r h1, Int.le_trans h2 mxI_r, fun q => by rw [Bool.and_eq_true] at q; exact h3 q.2⟩
    · subst e; trivial
  | .num k a b o, x, c, d, e, h => by
    cases x <;> simp only [A.hull, Option.some.injEq] at e <;> try (exact hullN_r e h)
    subst e; trivial
  | .bl a, x, c, d, e, h => by
    cases x <;> simp only [A.hull, Option.some.injEq] at e <;> try (exact hullN_r e h)
    · subst e
      obtain ⟨r, rfl, h1⟩ := h
      refine ⟨r, rfl, ?_⟩
      split
      · rename_i e; rw [e]; exact h1
      · exact .inl rfl
    · subst e; trivial
  | .str xs, x, c, d, e, h => by
    cases x <;> simp only [A.hull, Option.some.injEq] at e <;> try (exact hullN_r e h)
    · subst e
      obtain ⟨s, rfl, h1⟩ := h
      rename_i ys
      refine ⟨s, rfl, ?_⟩
      rw [List.mem_append]
      by_cases m : s ∈ ys
      · exact .inl m
      · refine .inr (List.mem_filter.mpr ⟨h1, ?_⟩)
        simpa using m
    · subst e; trivial
  | .non, x, c, d, e, h => by
    cases x <;> simp only [A.hull, Option.some.injEq] at e <;> try (exact hullN_r e h)
    · subst e
      exact h
    · subst e; trivial
  | .bag, x, c, d, e, h => by
    cases x <;> simp only [A.hull, Option.some.injEq] at e <;> try (exact hullN_r e h)
    · subst e
      exact h
    · subst e; trivial
  | .any, x, c, d, e, h => by
    cases x <;> simp only [A.hull, Option.some.injEq] at e <;> try (exact hullN_r e h)
    subst e; trivial
  | .lsx as, x, c, d, e, h => by
    cases x <;> simp only [A.hull, Option.some.injEq] at e <;> try (exact hullN_r e h)
    · subst e; trivial
    · split at e <;> simp only [Option.some.injEq, reduceCtorEq] at e
      rename_i q
      subst e
      obtain ⟨ds, rfl, h1⟩ := h
      exact ⟨ds, rfl, hulls_r _ _ q h1⟩
  | .lst a l g, x, c, d, e, h => by
    cases x <;> simp only [A.hull, Option.some.injEq] at e <;> try (exact hullN_r e h)
    · subst e; trivial
    · split at e <;> simp only [Option.some.injEq, reduceCtorEq] at e
      rename_i q
      subst e
      obtain ⟨ds, rfl, h1, h2, h3⟩ := h
      exact ⟨ds, rfl, Nat.le_trans mnN_r h1, Nat.le_trans h2 mxN_r, fun y m => hull_r _ _ q (h3 y m)⟩
  | .tpl a l g, x, c, d, e, h => by
    cases x <;> simp only [A.hull, Option.some.injEq] at e <;> try (exact hullN_r e h)
    · subst e; trivial
    · split at e <;> simp only [Option.some.injEq, reduceCtorEq] at e
      rename_i q
      subst e
      obtain ⟨ds, rfl, h1, h2, h3⟩ := h
      exact ⟨ds, rfl, Nat.le_trans mnN_r h1, Nat.le_trans h2 mxN_r, fun y m => hull_r _ _ q (h3 y m)⟩
  | .tup as, x, c, d, e, h => by
    cases x <;> simp only [A.hull, Option.some.injEq] at e <;> try (exact hullN_r e h)
    · subst e; trivial
    · split at e
      · exact hullN_r e h
      split at e <;> simp only [Option.some.injEq, reduceCtorEq] at e
      rename_i q
      subst e
      obtain ⟨ds, rfl, h1⟩ := h
      exact ⟨ds, rfl, hulls_r _ _ q h1⟩
  | .or as, x, c, d, e, h => by
    cases x <;> simp only [A.hull, Option.some.injEq] at e <;> try (exact hullN_r e h)
    subst e; trivial
theorem hulls_r : ∀ (bs as : List A) {cs : List A} {ds : List D}, A.hulls as bs = some cs → A.oks bs ds → A.oks cs ds
  | [], [], cs, ds, e, h => by
    simp only [A.hulls, Option.some.injEq] at e
    subst e
    exact h
  | [], b :: bs, cs, ds, e, h => by simp [A.hulls] at e
  | a :: as, [], cs, ds, e, h => by simp [A.hulls] at e
  | b :: bs, a :: as, cs, ds, e, h => by
    simp only [A.hulls] at e
    split at e <;> try (cases e; done)
    rename_i q
    split at e <;> simp only [Option.some.injEq, reduceCtorEq] at e
    rename_i q2
    subst e
    rw [A.oks] at h
    obtain ⟨x, xs, rfl, h1, h3⟩ := h
    exact oks_cons (hull_r _ _ q h1) (hulls_r _ _ q2 h3)
end
/-! ### one of several -/
def A.alts : A → List A
  | .or as => as
  | a => [a]
def A.ofs : List A → A
  | [a] => a
  | as => .or as
theorem alts_ok {a : A} {d : D} (h : a.ok d) : A.oko a.alts d := by
  cases a <;> first | (exact h) | (simp only [A.alts, oko_mem]; exact ⟨_, List.mem_cons_self, h⟩)
theorem ofs_ok {as : List A} {d : D} (h : A.oko as d) : (A.ofs as).ok d := by
  unfold A.ofs
  split
  · rw [oko_mem] at h
    obtain ⟨a, m, h⟩ := h
    rw [List.mem_singleton] at m
    rw [← m]
    exact h
  · rw [A.ok]
    exact h
/-- whether two may be made one -/
def keyed : A → A → Bool
  | .int a b _, .int c d _ => !(decide (a = b) && decide (c = d))
  | .tup (.int a b _ :: _ :: _ :: _), .tup (.int c d _ :: _ :: _ :: _) => if a = b ∨ c = d then decide (a = c ∧ b = d) else true
  | .tup [.int a b _, .int _ _ _], .tup [.int c d _, .int _ _ _] => true
  | .tup [.int a b _, _], .tup [.int c d _, _] => if a = b ∨ c = d then decide (a = c ∧ b = d) else true
  | _, _ => true
def insA : List A → A → List A
  | [], a => [a]
  | x :: xs, a => if A.eq x a = true then x :: xs else if keyed x a = true then (match A.hull x a with
      | some c => c :: xs
      | none => x :: insA xs a) else x :: insA xs a
theorem insA_l {xs : List A} {a : A} {d : D} (h : A.oko xs d) : A.oko (insA xs a) d := by
  induction xs with
  | nil => simp [A.oko] at h
  | cons x xs ih =>
    rw [A.oko] at h
    unfold insA
    split
    · rw [A.oko]; exact h
    split
    · split
      · rename_i q
        rw [A.oko]
        exact h.elim (fun h => .inl (hull_l _ _ q h)) .inr
      · rw [A.oko]
        exact h.elim .inl fun h => .inr (ih h)
    · rw [A.oko]
      exact h.elim .inl fun h => .inr (ih h)
theorem insA_r {xs : List A} {a : A} {d : D} (h : a.ok d) : A.oko (insA xs a) d := by
  induction xs with
  | nil => simp [insA, A.oko, h]
  | cons x xs ih =>
    unfold insA
    split
    · rename_i e
      rw [A.oko, A.eq_ok _ _ e]
      exact .inl h
    split
    · split
      · rename_i q
        rw [A.oko]
        exact .inl (hull_r _ _ q h)
      · rw [A.oko]
        exact .inr ih
    · rw [A.oko]
      exact .inr ih
def insAs (xs ys : List A) : List A := ys.foldl insA xs
theorem insAs_l {xs ys : List A} {d : D} (h : A.oko xs d) : A.oko (insAs xs ys) d := by
  unfold insAs
  induction ys generalizing xs with
  | nil => exact h
  | cons y ys ih => exact ih (insA_l h)
theorem insAs_r {xs ys : List A} {d : D} (h : A.oko ys d) : A.oko (insAs xs ys) d := by
  unfold insAs
  induction ys generalizing xs with
  | nil => simp [A.oko] at h
  | cons y ys ih =>
    rw [A.oko] at h
    rcases h with h | h
    · exact insAs_l (ys := ys) (insA_r h)
    · exact ih h
def A.uni (a b : A) : A := A.ofs (insAs a.alts b.alts)
theorem uni_l {a b : A} {d : D} (h : a.ok d) : (a.uni b).ok d := ofs_ok (insAs_l (alts_ok h))
theorem uni_r {a b : A} {d : D} (h : b.ok d) : (a.uni b).ok d := ofs_ok (insAs_r (alts_ok h))
def unis : List A → A
  | [] => .or []
  | [a] => a
  | a :: as => a.uni (unis as)
theorem unis_mem {as : List A} {a : A} {d : D} (m : a ∈ as) (h : a.ok d) : (unis as).ok d := by
  induction as with
  | nil => cases m
  | cons b as ih =>
    cases as with
    | nil =>
      rw [List.mem_singleton] at m
      rw [unis, ← m]
      exact h
    | cons c cs =>
      rw [unis]
      · cases m with
        | head => exact uni_l h
        | tail _ m => exact uni_r (ih m)
      · simp
/-- an operation, for each of several -/
def mapL (f : A → Option A) : List A → Option (List A)
  | [] => some []
  | a :: as => match f a with
    | some x => (match mapL f as with
      | some xs => some (insAs x.alts xs)
      | none => none)
    | none => none
def mapA (f : A → Option A) (a : A) : Option A := match mapL f a.alts with
  | some xs => some (A.ofs xs)
  | none => none
theorem mapL_ok {f : A → Option A} {as bs : List A} {a : A} (e : mapL f as = some bs) (m : a ∈ as) : ∃ x, f a = some x ∧ ∀ d, x.ok d → A.oko bs d := by
  induction as generalizing bs with
  | nil => cases m
  | cons b as ih =>
    rw [mapL] at e
    split at e <;> try (cases e; done)
    rename_i x q
    split at e <;> simp only [Option.some.injEq, reduceCtorEq] at e
    rename_i xs q2
    subst e
    cases m with
    | head => exact ⟨x, q, fun d h => insAs_l (alts_ok h)⟩
    | tail _ m =>
      obtain ⟨y, h1, h2⟩ := ih q2 m
      exact ⟨y, h1, fun d h => insAs_r (h2 d h)⟩
theorem mapA_ok {f : A → Option A} {a b : A} {d : D} (e : mapA f a = some b) (h : a.ok d) : ∃ a1 x, a1.ok d ∧ f a1 = some x ∧ ∀ d', x.ok d' → b.ok d' := by
  unfold mapA at e
  split at e <;> simp only [Option.some.injEq, reduceCtorEq] at e
  rename_i xs q
  subst e
  have := alts_ok h
  rw [oko_mem] at this
  obtain ⟨a1, m, h1⟩ := this
  obtain ⟨x, h2, h3⟩ := mapL_ok q m
  exact ⟨a1, x, h1, h2, fun d' h => ofs_ok (h3 d' h)⟩
end Ev
/-! Operators at what values may be. -/
namespace Ev
open PySem
theorem aok_int {lo hi : Int} {o : Bool} {d : D} : (A.int lo hi o).ok d ↔ ∃ i : Int, d = .int i ∧ lo ≤ i ∧ i ≤ hi ∧ (o = true → i % 2 = 1) := by rw [A.ok]
theorem aok_bl {b : Option Bool} {d : D} : (A.bl b).ok d ↔ ∃ r, d = .bl r ∧ (b = none ∨ b = some r) := by rw [A.ok]
theorem aok_num {k : Nat} {lo hi : Int} {nz : Bool} {d : D} : (A.num k lo hi nz).ok d ↔ ∃ x b : Int, d = N x b ∧ bits x ≤ k ∧ lo ≤ b ∧ b ≤ hi ∧ (nz = true → x ≠ 0) := by rw [A.ok]
/-! ints -/
def mn4 (a b c d : Int) : Int := mnI (mnI a b) (mnI c d)
def mx4 (a b c d : Int) : Int := mxI (mxI a b) (mxI c d)
theorem mn4_le {a b c d : Int} : mn4 a b c d ≤ a ∧ mn4 a b c d ≤ b ∧ mn4 a b c d ≤ c ∧ mn4 a b c d ≤ d := by
  have := @mnI_l a b; have := @mnI_r a b; have := @mnI_l c d; have := @mnI_r c d
  have := @mnI_l (mnI a b) (mnI c d); have := @mnI_r (mnI a b) (mnI c d)
  unfold mn4; omega
theorem mx4_ge {a b c d : Int} : a ≤ mx4 a b c d ∧ b ≤ mx4 a b c d ∧ c ≤ mx4 a b c d ∧ d ≤ mx4 a b c d := by
  have := @mxI_l a b; have := @mxI_r a b; have := @mxI_l c d; have := @mxI_r c d
  have := @mxI_l (mxI a b) (mxI c d); have := @mxI_r (mxI a b) (mxI c d)
  unfold mx4; omega
/-- a product lies between those of the ends -/
theorem mul_between {a b i x : Int} (h1 : a ≤ i) (h2 : i ≤ b) : (a * x ≤ i * x ∧ i * x ≤ b * x) ∨ (b * x ≤ i * x ∧ i * x ≤ a * x) := by
  rcases Int.le_total 0 x with h | h
  · exact .inl ⟨Int.mul_le_mul_of_nonneg_right h1 h, Int.mul_le_mul_of_nonneg_right h2 h⟩
  · exact .inr ⟨Int.mul_le_mul_of_nonpos_right h2 h, Int.mul_le_mul_of_nonpos_right h1 h⟩
theorem mul_range {a b c d i j : Int} (h1 : a ≤ i) (h2 : i ≤ b) (h3 : c ≤ j) (h4 : j ≤ d) : mn4 (a * c) (a * d) (b * c) (b * d) ≤ i * j ∧ i * j ≤ mx4 (a * c) (a * d) (b * c) (b * d) := by
  have p1 := mul_between (x := j) h1 h2
  have p2 := mul_between (x := a) h3 h4
  have p3 := mul_between (x := b) h3 h4
  rw [Int.mul_comm c a, Int.mul_comm j a, Int.mul_comm d a] at p2
  rw [Int.mul_comm c b, Int.mul_comm j b, Int.mul_comm d b] at p3
  have := @mn4_le (a * c) (a * d) (b * c) (b * d)
  have := @mx4_ge (a * c) (a * d) (b * c) (b * d)
  omega
theorem div_between {a b i x : Int} (h : 0 < x) (h1 : a ≤ i) (h2 : i ≤ b) : a / x ≤ i / x ∧ i / x ≤ b / x := ⟨Int.ediv_le_ediv h h1, Int.ediv_le_ediv h h2⟩
theorem div_anti {i x y : Int} (hx : 0 < x) (h : x ≤ y) : (0 ≤ i → i / y ≤ i / x) ∧ (i < 0 → i / x ≤ i / y) := by
  have hy : 0 < y := by omega
  constructor
  · intro h0
    have h1 : 0 ≤ i / y := Int.ediv_nonneg h0 (by omega)
    refine Int.le_ediv_of_mul_le hx ?_
    have h2 : i / y * y ≤ i := Int.ediv_mul_le i (by omega)
    have h3 : i / y * x ≤ i / y * y := Int.mul_le_mul_of_nonneg_left h h1
    omega
  · intro h0
    refine Int.le_ediv_of_mul_le hy ?_
    have h1 : i / x < 0 := Int.ediv_neg_of_neg_of_pos h0 hx
    have h2 : i / x * x ≤ i := Int.ediv_mul_le i (by omega)
    have h3 : i / x * y ≤ i / x * x := by
      have := Int.mul_le_mul_of_nonneg_left (a := x) (b := y) (c := -(i / x)) h (by omega)
      rw [Int.neg_mul, Int.neg_mul] at this
      omega
    omega
theorem div_range {a b c d i j : Int} (hc : 0 < c) (h1 : a ≤ i) (h2 : i ≤ b) (h3 : c ≤ j) (h4 : j ≤ d) : mn4 (a / c) (a / d) (b / c) (b / d) ≤ i / j ∧ i / j ≤ mx4 (a / c) (a / d) (b / c) (b / d) := by
  have hj : 0 < j := by omega
  have p := div_between hj h1 h2
  have qa1 := div_anti (i := a) hc h3
  have qa2 := div_anti (i := a) hj h4
  have qb1 := div_anti (i := b) hc h3
  have qb2 := div_anti (i := b) hj h4
  have := @mn4_le (a / c) (a / d) (b / c) (b / d)
  have := @mx4_ge (a / c) (a / d) (b / c) (b / d)
  rcases Int.lt_or_le a 0 with ha | ha <;> rcases Int.lt_or_le b 0 with hb | hb
  · have := qa1.2 ha; have := qb2.2 hb; omega
  · have := qa1.2 ha; have := qb1.1 hb; omega
  · omega
  · have := qa2.1 ha; have := qb1.1 hb; omega
theorem pow_mono2 {m n : Nat} (h : m ≤ n) : (2 : Int) ^ m ≤ 2 ^ n := by
  obtain ⟨k, rfl⟩ := Nat.exists_eq_add_of_le h
  rw [Int.pow_add]
  have := pow_pos2 m
  have := pow_pos2 k
  have : (2 : Int) ^ m * 1 ≤ 2 ^ m * 2 ^ k := Int.mul_le_mul_of_nonneg_left (by omega) (by omega)
  omega
def evn (o q : Bool) (a b c d : Int) : Bool := (o && decide (c = d) && decide (c % 2 = 0)) || (q && decide (a = b) && decide (a % 2 = 0))
/-- operators of ints -/
def aOpI (op : Operator) (a b : Int) (o : Bool) (c d : Int) (q : Bool) : Option A := match op with
  | .Add => some (.int (a + c) (b + d) (evn o q a b c d))
  | .Sub => some (.int (a - d) (b - c) (evn o q a b c d))
  | .Mult => if bitsR a b + bitsR c d ≤ 100000000 then some (.int (mn4 (a * c) (a * d) (b * c) (b * d)) (mx4 (a * c) (a * d) (b * c) (b * d)) (o && q)) else none
  | .LShift => if 0 ≤ c ∧ d ≤ 20000 ∧ bitsR a b ≤ 1000000 then some (.int (mn4 (a * 2 ^ c.toNat) (a * 2 ^ d.toNat) (b * 2 ^ c.toNat) (b * 2 ^ d.toNat)) (mx4 (a * 2 ^ c.toNat) (a * 2 ^ d.toNat) (b * 2 ^ c.toNat) (b * 2 ^ d.toNat)) false) else none
  | .RShift => if 0 ≤ c ∧ d ≤ 20000 then some (.int (mn4 (a / 2 ^ c.toNat) (a / 2 ^ d.toNat) (b / 2 ^ c.toNat) (b / 2 ^ d.toNat)) (mx4 (a / 2 ^ c.toNat) (a / 2 ^ d.toNat) (b / 2 ^ c.toNat) (b / 2 ^ d.toNat)) false) else none
  | .FloorDiv => if 0 < c ∧ bitsR c d ≤ 9000 then some (.int (mn4 (a / c) (a / d) (b / c) (b / d)) (mx4 (a / c) (a / d) (b / c) (b / d)) false) else none
  | .Mod => if 0 < c then some (if c = d ∧ a / c = b / c then .int (a % c) (b % c) false else .int 0 (d - 1) (o && decide (c = d) && decide (c % 2 = 0))) else none
  | .Pow => if a = b ∧ c = d ∧ 0 ≤ c ∧ c ≤ 20000 ∧ a.natAbs < 2 ^ 64 then some (.int (a ^ c.toNat) (a ^ c.toNat) false) else if a = 2 ∧ b = 2 ∧ 0 ≤ c ∧ d ≤ 20000 then some (.int (2 ^ c.toNat) (2 ^ d.toNat) false) else none
  | .BitAnd => if c = 1 ∧ d = 1 then some (if o = true then .int 1 1 true else .int 0 1 false) else none
  | .BitOr => if c = 1 ∧ d = 1 then some (.int a (b + 1) true) else none
  | _ => none
theorem aOpI_ok {op : Operator} {a b c d i j : Int} {o q : Bool} {r : A} (e : aOpI op a b o c d q = some r) (h1 : a ≤ i) (h2 : i ≤ b) (ho : o = true → i % 2 = 1) (h3 : c ≤ j) (h4 : j ≤ d) (hq : q = true → j % 2 = 1) : ∃ k, (∀ T, opW op T (.v (.int i)) (.v (.int j)) = some (.v (.int k))) ∧ r.ok (.int k) := by
  have hev : evn o q a b c d = true → (i + j) % 2 = 1 ∧ (i - j) % 2 = 1 := by
    unfold evn
    intro h
    simp only [Bool.or_eq_true, Bool.and_eq_true, decide_eq_true_eq] at h
    rcases h with ⟨⟨h5, h6⟩, h7⟩ | ⟨⟨h5, h6⟩, h7⟩
    · have := ho h5; omega
    · have := hq h5; omega
  cases op <;> simp only [aOpI] at e <;> try (cases e; done)
  case Add =>
    simp only [Option.some.injEq] at e
    subst e
    exact ⟨i + j, fun T => i_add, aok_int.mpr ⟨_, rfl, by omega, by omega, fun h => (hev h).1⟩⟩
  case Sub =>
    simp only [Option.some.injEq] at e
    subst e
    exact ⟨i - j, fun T => i_sub, aok_int.mpr ⟨_, rfl, by omega, by omega, fun h => (hev h).2⟩⟩
  case Mult =>
    split at e <;> simp only [Option.some.injEq, reduceCtorEq] at e
    subst e
    have b1 := bits_range h1 h2
    have b2 := bits_range h3 h4
    have := mul_range h1 h2 h3 h4
    refine ⟨i * j, fun T => i_mul (by omega), aok_int.mpr ⟨_, rfl, this.1, this.2, fun h => ?_⟩⟩
    rw [Bool.and_eq_true] at h
    rw [Int.mul_emod, ho h.1, hq h.2]
    rfl
  case LShift =>
    split at e <;> simp only [Option.some.injEq, reduceCtorEq] at e
    rename_i h
    subst e
    have b1 := bits_range h1 h2
    have := mul_range (i := i) (j := 2 ^ j.toNat) h1 h2 (pow_mono2 (m := c.toNat) (n := j.toNat) (by omega)) (pow_mono2 (m := j.toNat) (n := d.toNat) (by omega))
    exact ⟨i * 2 ^ j.toNat, fun T => i_shl (by omega) (by omega), aok_int.mpr ⟨_, rfl, this.1, this.2, fun h => by cases h⟩⟩
  case RShift =>
    split at e <;> simp only [Option.some.injEq, reduceCtorEq] at e
    rename_i h
    subst e
    have := div_range (i := i) (j := 2 ^ j.toNat) (pow_pos2 _) h1 h2 (pow_mono2 (m := c.toNat) (n := j.toNat) (by omega)) (pow_mono2 (m := j.toNat) (n := d.toNat) (by omega))
    exact ⟨i / 2 ^ j.toNat, fun T => i_shr (by omega), aok_int.mpr ⟨_, rfl, this.1, this.2, fun h => by cases h⟩⟩
  case FloorDiv =>
    split at e <;> simp only [Option.some.injEq, reduceCtorEq] at e
    rename_i h
    subst e
    have b2 := bits_range h3 h4
    have := div_range h.1 h1 h2 h3 h4
    exact ⟨i / j, fun T => i_div (by omega) (.inl (by omega)), aok_int.mpr ⟨_, rfl, this.1, this.2, fun h => by cases h⟩⟩
  case Mod =>
    split at e <;> simp only [Option.some.injEq, reduceCtorEq] at e
    rename_i h
    subst e
    have m1 := Int.emod_nonneg i (b := j) (by omega)
    have m2 := Int.emod_lt_of_pos i (b := j) (by omega)
    refine ⟨i % j, fun T => i_mod (by omega), ?_⟩
    split
    · rename_i hh
      obtain ⟨rfl, hh⟩ := hh
      have ej : j = c := by omega
      subst ej
      have := div_between (x := j) h h1 h2
      have e1 : i / j = a / j := by omega
      have ea := Int.mul_ediv_add_emod a j
      have ei := Int.mul_ediv_add_emod i j
      have eb := Int.mul_ediv_add_emod b j
      rw [e1] at ei
      rw [← hh] at eb
      generalize j * (a / j) = W at *
      exact aok_int.mpr ⟨_, rfl, by omega, by omega, fun h => by cases h⟩
    · refine aok_int.mpr ⟨_, rfl, m1, by omega, fun hh => ?_⟩
      simp only [Bool.and_eq_true, decide_eq_true_eq] at hh
      obtain ⟨⟨h5, h6⟩, h7⟩ := hh
      have := ho h5
      have ej : j = c := by omega
      rw [ej, Int.emod_emod_of_dvd _ (by omega)]
      exact this
  case Pow =>
    split at e
    · simp only [Option.some.injEq] at e
      rename_i h
      subst e
      have e1 : i = a := by omega
      have e2 : j = c := by omega
      subst e1 e2
      exact ⟨i ^ j.toNat, fun T => i_pow (by omega) (by omega) h.2.2.2.2, aok_int.mpr ⟨_, rfl, by omega, by omega, fun h => by cases h⟩⟩
    · split at e <;> simp only [Option.some.injEq, reduceCtorEq] at e
      rename_i h
      subst e
      have e1 : i = 2 := by omega
      subst e1
      exact ⟨2 ^ j.toNat, fun T => i_pow (by omega) (by omega) (by decide), aok_int.mpr ⟨_, rfl, pow_mono2 (by omega), pow_mono2 (by omega), fun h => by cases h⟩⟩
  case BitAnd =>
    split at e <;> simp only [Option.some.injEq, reduceCtorEq] at e
    rename_i h
    subst e
    have e1 : j = 1 := by omega
    subst e1
    refine ⟨i % 2, fun T => i_and1, ?_⟩
    split
    · rename_i h5
      have := ho h5
      exact aok_int.mpr ⟨_, rfl, by omega, by omega, fun _ => by omega⟩
    · exact aok_int.mpr ⟨_, rfl, by omega, by omega, fun h => by cases h⟩
  case BitOr =>
    split at e <;> simp only [Option.some.injEq, reduceCtorEq] at e
    rename_i h
    subst e
    have e1 : j = 1 := by omega
    subst e1
    exact ⟨i + 1 - i % 2, fun T => i_or1, aok_int.mpr ⟨_, rfl, by omega, by omega, fun _ => by omega⟩⟩
def aBin (op : Operator) : A → A → Option A
  | .int a b o, .int c d q => aOpI op a b o c d q
  | .tup as, .tup bs => if op = .Add ∧ as.length + bs.length ≤ 1000000 then some (.tup (as ++ bs)) else none
  | .tup as, .int c d _ => if op = .Mult ∧ c = d ∧ 2 ≤ c ∧ c ≤ 1000 ∧ 0 < as.length ∧ as.length ≤ 1000 then some (.tup (List.replicate c.toNat as).flatten) else none
  | _, _ => none
theorem aBin_ok {op : Operator} {a b r : A} {x y : D} (e : aBin op a b = some r) (h1 : a.ok x) (h2 : b.ok y) : ∃ w, (∀ T, opW op T (.v x) (.v y) = some (.v w)) ∧ r.ok w := by
  unfold aBin at e
  split at e
  · rw [aok_int] at h1 h2
    obtain ⟨i, rfl, h3, h4, h5⟩ := h1
    obtain ⟨j, rfl, h6, h7, h8⟩ := h2
    obtain ⟨k, hk, hr⟩ := aOpI_ok e h3 h4 h5 h6 h7 h8
    exact ⟨_, hk, hr⟩
  · split at e <;> simp only [Option.some.injEq, reduceCtorEq] at e
    rename_i h
    obtain ⟨rfl, h⟩ := h
    subst e
    rw [A.ok] at h1 h2
    obtain ⟨ds, rfl, h3⟩ := h1
    obtain ⟨es, rfl, h4⟩ := h2
    refine ⟨.tup (ds ++ es), fun T => ?_, ?_⟩
    · show (if ds.length + es.length ≤ LL then some (W.v (.tup (ds ++ es))) else none) = _
      rw [if_pos]
      rw [oks_len h3, oks_len h4]
      exact h
    · rw [A.ok]
      exact ⟨_, rfl, oks_app h3 h4⟩
  · split at e <;> simp only [Option.some.injEq, reduceCtorEq] at e
    rename_i h
    obtain ⟨rfl, rfl, h5, h6, h7, h8⟩ := h
    subst e
    rw [A.ok] at h1
    rw [aok_int] at h2
    obtain ⟨ds, rfl, h3⟩ := h1
    obtain ⟨j, rfl, h9, h10, _⟩ := h2
    have ej : j = _ := Int.le_antisymm h10 h9
    subst ej
    refine ⟨.tup (List.replicate j.toNat ds).flatten, fun T => ?_, ?_⟩
    · show (if ds ≠ [] ∧ 2 ≤ j ∧ j ≤ 1000 ∧ ds.length ≤ 1000 then some (W.v (.tup (List.replicate j.toNat ds).flatten)) else none) = _
      rw [if_pos]
      refine ⟨fun e0 => ?_, h5, h6, by rw [oks_len h3]; exact h8⟩
      have := oks_len h3
      rw [e0, List.length_nil] at this
      omega
    · rw [A.ok]
      exact ⟨_, rfl, oks_rep h3 _⟩
  · cases e
/-! comparisons -/
def aCmpI (op : CmpOp) (a b c d : Int) : Option (Option Bool) := match op with
  | .Lt => some (if b < c then some true else if d ≤ a then some false else none)
  | .LtE => some (if b ≤ c then some true else if d < a then some false else none)
  | .Gt => some (if d < a then some true else if b ≤ c then some false else none)
  | .GtE => some (if d ≤ a then some true else if b < c then some false else none)
  | .Eq => some (if b < c ∨ d < a then some false else if a = b ∧ c = d ∧ a = c then some true else none)
  | .NotEq => some (if b < c ∨ d < a then some true else if a = b ∧ c = d ∧ a = c then some false else none)
  | _ => none
theorem aCmpI_ok {op : CmpOp} {a b c d i j : Int} {r : Option Bool} (e : aCmpI op a b c d = some r) (h1 : a ≤ i) (h2 : i ≤ b) (h3 : c ≤ j) (h4 : j ≤ d) : ∃ k, (∀ T, cmpW op T (.v (.int i)) (.v (.int j)) = some k) ∧ (r = none ∨ r = some k) := by
  cases op <;> simp only [aCmpI, Option.some.injEq] at e <;> try (cases e; done)
  case Lt =>
    refine ⟨_, fun T => c_lt, ?_⟩
    subst e
    split
    · exact .inr (by rw [decide_eq_true (by omega)])
    split
    · exact .inr (by rw [decide_eq_false (by omega)])
    · exact .inl rfl
  case LtE =>
    refine ⟨_, fun T => c_le, ?_⟩
    subst e
    split
    · exact .inr (by rw [decide_eq_true (by omega)])
    split
    · exact .inr (by rw [decide_eq_false (by omega)])
    · exact .inl rfl
  case Gt =>
    refine ⟨_, fun T => c_gt, ?_⟩
    subst e
    split
    · exact .inr (by rw [decide_eq_true (by omega)])
    split
    · exact .inr (by rw [decide_eq_false (by omega)])
    · exact .inl rfl
  case GtE =>
    refine ⟨_, fun T => c_ge, ?_⟩
    subst e
    split
    · exact .inr (by rw [decide_eq_true (by omega)])
    split
    · exact .inr (by rw [decide_eq_false (by omega)])
    · exact .inl rfl
  case Eq =>
    refine ⟨_, fun T => c_eq, ?_⟩
    subst e
    split
    · exact .inr (by rw [decide_eq_false (by omega)])
    split
    · exact .inr (by rw [decide_eq_true (by omega)])
    · exact .inl rfl
  case NotEq =>
    refine ⟨_, fun T => c_ne, ?_⟩
    subst e
    split
    · exact .inr (by rw [decide_eq_false (by omega)]; rfl)
    split
    · exact .inr (by rw [decide_eq_true (by omega)]; rfl)
    · exact .inl rfl
def isPos : CmpOp → Option Bool
  | .Eq => some true
  | .NotEq => some false
  | _ => none
def flipB (p : Bool) (b : Option Bool) : Option Bool := if p = true then b else b.map (!·)
theorem flip_ok {p k : Bool} {r : Option Bool} (h : r = none ∨ r = some k) : flipB p r = none ∨ flipB p r = some (if p = true then k else !k) := by
  unfold flipB
  cases p <;> rcases h with rfl | rfl <;> simp
/-- equality of two values of these kinds -/
def aEq : A → A → Option (Option Bool)
  | .str xs, .str ys => (match xs, ys with
    | [x], [y] => some (some (decide (x = y)))
    | xs, ys => some (if xs.all fun x => !ys.contains x then some false else none))
  | .bl a, .bl b => (match a, b with
    | some x, some y => some (some (x == y))
    | _, _ => some none)
  | .non, .non => some (some true)
  | a, b => match a.num? with
    | some (k, _, _, z) => (match b.num? with
      | some (k', _, _, z') => some (if k = 0 ∧ k' = 0 then some true else if (z = true ∧ k' = 0) ∨ (z' = true ∧ k = 0) then some false else none)
      | none => none)
    | none => none
theorem bits_0 {x : Int} (h : bits x ≤ 0) : x = 0 := by
  have := bits_le.mp h
  simp at this
  omega
theorem aEq_ok {a b : A} {x y : D} {r : Option Bool} (e : aEq a b = some r) (h1 : a.ok x) (h2 : b.ok y) : ∃ k, (∀ T, eqW T (.v x) (.v y) = some k) ∧ (r = none ∨ r = some k) := by
  unfold aEq at e
  split at e
  · rw [A.ok] at h1 h2
    obtain ⟨s, rfl, m1⟩ := h1
    obtain ⟨t, rfl, m2⟩ := h2
    refine ⟨decide (s = t), fun T => rfl, ?_⟩
    split at e
    · simp only [Option.some.injEq] at e
      subst e
      rw [List.mem_singleton] at m1 m2
      rw [m1, m2]
      exact .inr rfl
    · simp only [Option.some.injEq] at e
      subst e
      split
      · rename_i h
        refine .inr ?_
        rw [List.all_eq_true] at h
        have := h s m1
        rw [decide_eq_false]
        rintro rfl
        simp [m2] at this
      · exact .inl rfl
  · rw [aok_bl] at h1 h2
    obtain ⟨s, rfl, m1⟩ := h1
    obtain ⟨t, rfl, m2⟩ := h2
    refine ⟨s == t, fun T => rfl, ?_⟩
    split at e
    · simp only [Option.some.injEq] at e
      subst e
      rcases m1 with m1 | m1 <;> rcases m2 with m2 | m2 <;> simp at m1 m2
      subst m1 m2
      exact .inr rfl
    · simp only [Option.some.injEq] at e
      exact .inl e.symm
  · rw [A.ok] at h1 h2
    subst h1 h2
    simp only [Option.some.injEq] at e
    exact ⟨true, fun T => rfl, .inr e.symm⟩
  · split at e <;> try (cases e; done)
    rename_i q1
    split at e <;> simp only [Option.some.injEq, reduceCtorEq] at e
    rename_i q2
    obtain ⟨x, b, rfl, g1, g2, g3, g4⟩ := aok_num.mp (num?_ok q1 h1)
    obtain ⟨y, c, rfl, g5, g6, g7, g8⟩ := aok_num.mp (num?_ok q2 h2)
    refine ⟨_, fun T => eq_pr, ?_⟩
    subst e
    split
    · rename_i h
      obtain ⟨rfl, rfl⟩ := h
      rw [bits_0 g1, bits_0 g5]
      exact .inr rfl
    split
    · rename_i h
      refine .inr ?_
      rw [decide_eq_false]
      intro hh
      have m : ∀ {x b : Int}, x ≠ 0 → num x b ≠ (0, 0) := fun {x b} h e => by
        have := num_ne (b := b) h
        rw [e] at this
        simp at this
      rcases h with ⟨hz, rfl⟩ | ⟨hz, rfl⟩
      · rw [bits_0 g5, num_zero] at hh
        exact m (g4 hz) hh
      · rw [bits_0 g1, num_zero] at hh
        exact m (g8 hz) hh.symm
    · exact .inl rfl
def aIs : A → A → Option (Option Bool)
  | .non, .non => some (some true)
  | .bl a, .bl (some y) => (match a with
    | some x => some (some (x == y))
    | none => some none)
  | .int _ _ _, .non => some (some false)
  | .num _ _ _ _, .non => some (some false)
  | .tup _, .non => some (some false)
  | .str _, .non => some (some false)
  | .bl _, .non => some (some false)
  | .non, .bl (some _) => some (some false)
  | .int _ _ _, .bl (some _) => some (some false)
  | .num _ _ _ _, .bl (some _) => some (some false)
  | .tup _, .bl (some _) => some (some false)
  | _, _ => none
theorem aIs_ok {a b : A} {x y : D} {r : Option Bool} (e : aIs a b = some r) (h1 : a.ok x) (h2 : b.ok y) : ∃ k, isW (.v x) (.v y) = some k ∧ (r = none ∨ r = some k) := by
  unfold aIs at e
  split at e <;> (try simp only [A.ok] at h1) <;> (try simp only [A.ok] at h2) <;> try (simp only [Option.some.injEq] at e)
  · subst h1 h2
    exact ⟨true, rfl, .inr e.symm⟩
  · obtain ⟨s, rfl, m1⟩ := h1
    obtain ⟨t, rfl, m2⟩ := h2
    simp at m2
    subst m2
    refine ⟨s == _, rfl, ?_⟩
    split at e <;> simp only [Option.some.injEq] at e
    · rcases m1 with m1 | m1 <;> simp at m1
      subst m1
      exact .inr e.symm
    · exact .inl e.symm
  · obtain ⟨i, rfl, _⟩ := h1
    subst h2
    exact ⟨_, rfl, .inr e.symm⟩
  · obtain ⟨i, j, rfl, _⟩ := h1
    subst h2
    exact ⟨_, rfl, .inr e.symm⟩
  · obtain ⟨i, rfl, _⟩ := h1
    subst h2
    exact ⟨_, rfl, .inr e.symm⟩
  · obtain ⟨i, rfl, _⟩ := h1
    subst h2
    exact ⟨_, rfl, .inr e.symm⟩
  · obtain ⟨i, rfl, _⟩ := h1
    subst h2
    exact ⟨_, rfl, .inr e.symm⟩
  · obtain ⟨t, rfl, m2⟩ := h2
    subst h1
    exact ⟨_, rfl, .inr e.symm⟩
  · obtain ⟨t, rfl, m2⟩ := h2
    obtain ⟨i, rfl, _⟩ := h1
    exact ⟨_, rfl, .inr e.symm⟩
  · obtain ⟨t, rfl, m2⟩ := h2
    obtain ⟨i, j, rfl, _⟩ := h1
    exact ⟨_, rfl, .inr e.symm⟩
  · obtain ⟨t, rfl, m2⟩ := h2
    obtain ⟨i, rfl, _⟩ := h1
    exact ⟨_, rfl, .inr e.symm⟩
  · cases e
def aCmp (op : CmpOp) (a b : A) : Option A := match a, b with
  | .int x y _, .int z w _ => (match aCmpI op x y z w with
    | some r => some (.bl r)
    | none => none)
  | a, b => match op with
    | .Eq => (match aEq a b with
      | some r => some (.bl r)
      | none => none)
    | .NotEq => (match aEq a b with
      | some r => some (.bl (flipB false r))
      | none => none)
    | .Is => (match aIs a b with
      | some r => some (.bl r)
      | none => none)
    | .IsNot => (match aIs a b with
      | some r => some (.bl (flipB false r))
      | none => none)
    | _ => none
theorem aCmp_ok {op : CmpOp} {a b r : A} {x y : D} (e : aCmp op a b = some r) (h1 : a.ok x) (h2 : b.ok y) : ∃ k, (∀ T, cmpW op T (.v x) (.v y) = some k) ∧ r.ok (.bl k) := by
  unfold aCmp at e
  split at e
  · split at e <;> simp only [Option.some.injEq, reduceCtorEq] at e
    rename_i q
    subst e
    rw [aok_int] at h1 h2
    obtain ⟨i, rfl, h3, h4, _⟩ := h1
    obtain ⟨j, rfl, h6, h7, _⟩ := h2
    obtain ⟨k, h8, h9⟩ := aCmpI_ok q h3 h4 h6 h7
    exact ⟨k, h8, aok_bl.mpr ⟨_, rfl, h9⟩⟩
  · split at e
    · split at e <;> simp only [Option.some.injEq, reduceCtorEq] at e
      rename_i q
      subst e
      obtain ⟨k, h8, h9⟩ := aEq_ok q h1 h2
      exact ⟨k, h8, aok_bl.mpr ⟨_, rfl, h9⟩⟩
    · split at e <;> simp only [Option.some.injEq, reduceCtorEq] at e
      rename_i q
      subst e
      obtain ⟨k, h8, h9⟩ := aEq_ok q h1 h2
      refine ⟨!k, fun T => ?_, aok_bl.mpr ⟨_, rfl, flip_ok (p := false) h9⟩⟩
      show (eqW T (.v x) (.v y)).map (!·) = _
      rw [h8]
      rfl
    · split at e <;> simp only [Option.some.injEq, reduceCtorEq] at e
      rename_i q
      subst e
      obtain ⟨k, h8, h9⟩ := aIs_ok q h1 h2
      exact ⟨k, fun T => h8, aok_bl.mpr ⟨_, rfl, h9⟩⟩
    · split at e <;> simp only [Option.some.injEq, reduceCtorEq] at e
      rename_i q
      subst e
      obtain ⟨k, h8, h9⟩ := aIs_ok q h1 h2
      refine ⟨!k, fun T => ?_, aok_bl.mpr ⟨_, rfl, flip_ok (p := false) h9⟩⟩
      show (isW (.v x) (.v y)).map (!·) = _
      rw [h8]
      rfl
    · cases e
end Ev
/-! Expressions at what values may be. -/
namespace Ev
open PySem
inductive AW where
  | v (a : A) | l (f : Bool) (a : A)
def AW.ok : AW → W → Prop
  | .v a, w => ∃ d, w = .v d ∧ a.ok d
  | .l f a, w => ∃ xs, w = .l f xs ∧ a.ok (.lst xs)
def AW.st : AW → Option A
  | .v a => some a
  | .l true a => some a
  | .l false _ => none
theorem awst_ok {aw : AW} {a : A} {w : W} (e : aw.st = some a) (h : aw.ok w) : ∃ d, w.st = some d ∧ a.ok d := by
  unfold AW.st at e
  split at e <;> simp only [Option.some.injEq, reduceCtorEq] at e
  · subst e
    obtain ⟨d, rfl, h⟩ := h
    exact ⟨d, rfl, h⟩
  · subst e
    obtain ⟨xs, rfl, h⟩ := h
    exact ⟨_, rfl, h⟩
inductive AS where
  | no | any | val (a : A) | own (a : A)
  deriving Inhabited
def AS.ok : AS → Slot → Prop
  | .no, s => s = .no
  | .any, _ => True
  | .val a, s => ∃ d, s = .val d ∧ a.ok d
  | .own a, s => ∃ xs, s = .own xs ∧ a.ok (.lst xs)
abbrev AEn := List AS
def AEn.ok : AEn → En → Prop
  | [], η => η = []
  | a :: as, η => ∃ s ss, η = s :: ss ∧ a.ok s ∧ AEn.ok as ss
def AEn.get (as : AEn) (i : Nat) : AS := as.getD i .any
theorem aen_len {as : AEn} {η : En} (h : as.ok η) : η.length = as.length := by
  induction as generalizing η with
  | nil => rw [AEn.ok] at h; rw [h]; rfl
  | cons a as ih =>
    obtain ⟨s, ss, rfl, _, h2⟩ := h
    rw [List.length_cons, List.length_cons, ih h2]
theorem aen_get {as : AEn} {η : En} (h : as.ok η) {i : Nat} : (as.get i).ok (η.get i) := by
  induction as generalizing η i with
  | nil => trivial
  | cons a as ih =>
    obtain ⟨s, ss, rfl, h1, h2⟩ := h
    cases i with
    | zero => exact h1
    | succ i => exact ih h2
theorem aen_set {as : AEn} {η : En} (h : as.ok η) {i : Nat} {a : AS} {s : Slot} (hs : a.ok s) : AEn.ok (as.set i a) (η.put i s) := by
  induction as generalizing η i with
  | nil => rw [AEn.ok] at h; rw [h]; rfl
  | cons b as ih =>
    obtain ⟨t, ss, rfl, h1, h2⟩ := h
    cases i with
    | zero => exact ⟨s, ss, rfl, hs, h2⟩
    | succ i => exact ⟨t, _, rfl, h1, ih h2⟩
def aWipe (η : AEn) : List Nat → AEn
  | [] => η
  | v :: vs => (aWipe η vs).set v .no
theorem aWipe_ok {as : AEn} {η : En} (h : as.ok η) : ∀ vs : List Nat, (aWipe as vs).ok (wipeE η vs)
  | [] => h
  | v :: vs => aen_set (aWipe_ok h vs) rfl
/-! items -/
inductive AI where
  | ex (as : List A) | many (a : A) (lo hi : Nat)
def AI.ok : AI → List D → Prop
  | .ex as, ds => A.oks as ds
  | .many a lo hi, ds => lo ≤ ds.length ∧ ds.length ≤ hi ∧ ∀ x, x ∈ ds → a.ok x
def pw1 (k : Nat) : Int := 2 ^ k - 1
def A.items : A → Option AI
  | .tup as => some (.ex as)
  | .num k lo hi nz => some (.ex [.int (-pw1 k) (pw1 k) nz, if nz = true then .int lo (hi + k - 1) false else .int (mnI lo 0) (mxI (hi + k) 0) false])
  | .tpl a lo hi => some (.many a lo hi)
  | .lsx as => some (.ex as)
  | .lst a lo hi => some (.many a lo hi)
  | _ => none
theorem num_items {k : Nat} {lo hi : Int} {nz : Bool} {x b : Int} (h1 : bits x ≤ k) (h2 : lo ≤ b) (h3 : b ≤ hi) (h4 : nz = true → x ≠ 0) :
    A.oks [.int (-pw1 k) (pw1 k) nz, if nz = true then .int lo (hi + k - 1) false else .int (mnI lo 0) (mxI (hi + k) 0) false] [.int (num x b).1, .int (num x b).2] := by
  obtain ⟨q1, q2⟩ := num_bd (b := b) h1
  have q3 := bits_le.mp q1
  have q4 : ((2 ^ k : Nat) : Int) = 2 ^ k := pow_cast
  refine oks_cons (aok_int.mpr ⟨_, rfl, by unfold pw1; omega, by unfold pw1; omega, fun h => num_ne (h4 h)⟩) (oks_cons ?_ oks_nil)
  have m1 := @mnI_l lo 0
  have m2 := @mnI_r lo 0
  have m3 := @mxI_l (hi + k) 0
  have m4 := @mxI_r (hi + k) 0
  split
  · rename_i h
    refine aok_int.mpr ⟨_, rfl, ?_, ?_, fun h => by cases h⟩ <;> rcases q2 with q2 | q2
    · have := num_ne (b := b) (h4 h); omega
    · omega
    · have := num_ne (b := b) (h4 h); omega
    · omega
  · exact aok_int.mpr ⟨_, rfl, by omega, by omega, fun h => by cases h⟩
theorem items_ok {a : A} {it : AI} {d : D} (e : a.items = some it) (h : a.ok d) : ∃ ds, (∀ T, (W.v d).items T = some ds) ∧ it.ok ds ∧ (d = .tup ds ∨ d = .lst ds) := by
  unfold A.items at e
  split at e <;> simp only [Option.some.injEq, reduceCtorEq] at e <;> subst e <;> rw [A.ok] at h
  · obtain ⟨ds, rfl, h⟩ := h
    exact ⟨ds, fun T => rfl, h, .inl rfl⟩
  · obtain ⟨x, b, rfl, h1, h2, h3, h4⟩ := h
    exact ⟨_, fun T => rfl, num_items h1 h2 h3 h4, .inl rfl⟩
  · obtain ⟨ds, rfl, h⟩ := h
    exact ⟨ds, fun T => rfl, h, .inl rfl⟩
  · obtain ⟨ds, rfl, h⟩ := h
    exact ⟨ds, fun T => rfl, h, .inr rfl⟩
  · obtain ⟨ds, rfl, h⟩ := h
    exact ⟨ds, fun T => rfl, h, .inr rfl⟩
def AW.a : AW → A
  | .v a => a
  | .l _ a => a
/-- the items of lists and tuples, also of lists that are fresh or own -/
theorem witems_ok {aw : AW} {it : AI} {w : W} (e : aw.a.items = some it) (h : aw.ok w) : ∃ ds, (∀ T, w.items T = some ds) ∧ it.ok ds := by
  cases aw with
  | v a =>
    obtain ⟨d, rfl, h⟩ := h
    obtain ⟨ds, h1, h2, _⟩ := items_ok e h
    exact ⟨ds, h1, h2⟩
  | l f a =>
    obtain ⟨xs, rfl, h⟩ := h
    obtain ⟨ds, h1, h2, h3⟩ := items_ok e h
    rcases h3 with h3 | h3 <;> cases h3
    exact ⟨xs, fun T => rfl, h2⟩
def ixItems : AI → Int → Int → Option A
  | .ex as, a, b => if a = b then (match L2.ixN as.length a with
      | some n => as[n]?
      | none => none) else if 0 ≤ a ∧ a ≤ b ∧ b < as.length then some (unis ((as.drop a.toNat).take (b - a + 1).toNat)) else none
  | .many x lo hi, a, b => if (0 ≤ a ∧ b < lo) ∨ (b ≤ -1 ∧ -(lo : Int) ≤ a) then some x else none
theorem ixItems_ok {it : AI} {a b i : Int} {r : A} {ds : List D} (e : ixItems it a b = some r) (h : it.ok ds) (h1 : a ≤ i) (h2 : i ≤ b) : ∃ d, ixD ds i = some d ∧ r.ok d := by
  unfold ixD L2.atI
  cases it with
  | ex as =>
    simp only [ixItems] at e
    split at e
    · rename_i hab
      have : i = a := by omega
      subst this
      split at e <;> try (cases e; done)
      rename_i n q
      rw [oks_len h, q]
      obtain ⟨d, h3, h4⟩ := oks_get h e
      exact ⟨d, h3, h4⟩
    · split at e <;> simp only [Option.some.injEq, reduceCtorEq] at e
      rename_i q
      subst e
      have hl := oks_len h
      have hi : i.toNat < ds.length := by omega
      have hx : L2.ixN ds.length i = some i.toNat := by
        unfold L2.ixN
        rw [if_pos (by omega), if_pos (by omega)]
      rw [hx]
      refine ⟨ds[i.toNat], by simp [hi], ?_⟩
      have h5 := oks_take (oks_drop h a.toNat) (b - a + 1).toNat
      have m : ds[i.toNat] ∈ (ds.drop a.toNat).take (b - a + 1).toNat := by
        rw [List.mem_take_iff_getElem]
        refine ⟨i.toNat - a.toNat, by rw [List.length_drop]; omega, ?_⟩
        rw [List.getElem_drop]
        congr 1
        omega
      obtain ⟨c, m2, h6⟩ := oks_mem h5 m
      exact unis_mem m2 h6
  | many x lo hi =>
    simp only [ixItems] at e
    split at e <;> simp only [Option.some.injEq, reduceCtorEq] at e
    rename_i q
    subst e
    obtain ⟨h3, h4, h5⟩ := h
    rcases q with q | q
    · have hi : i.toNat < ds.length := by omega
      have hx : L2.ixN ds.length i = some i.toNat := by
        unfold L2.ixN
        rw [if_pos (by omega), if_pos (by omega)]
      rw [hx]
      exact ⟨ds[i.toNat], by simp [hi], h5 _ (List.getElem_mem _)⟩
    · have hi : (i + ds.length).toNat < ds.length := by omega
      have hx : L2.ixN ds.length i = some (i + ds.length).toNat := by
        unfold L2.ixN
        rw [if_neg (by omega), if_pos (by omega)]
      rw [hx]
      exact ⟨ds[(i + ds.length).toNat], by simp [hi], h5 _ (List.getElem_mem _)⟩
/-! reading an item, a part -/
def aIx (aw : AW) (i : A) : Option A := mapA (fun x => match x.items with
  | some it => mapA (fun y => match y with
    | .int a b _ => ixItems it a b
    | _ => none) i
  | none => none) aw.a
theorem aw_alt {aw : AW} {w : W} (h : aw.ok w) : ∃ d, aw.a.ok d ∧ ((w = .v d) ∨ ∃ f xs, w = .l f xs ∧ d = .lst xs) := by
  cases aw with
  | v a =>
    obtain ⟨d, rfl, h⟩ := h
    exact ⟨d, h, .inl rfl⟩
  | l f a =>
    obtain ⟨xs, rfl, h⟩ := h
    exact ⟨_, h, .inr ⟨_, _, rfl, rfl⟩⟩
theorem aIx_ok {aw : AW} {i r : A} {w : W} {y : D} (e : aIx aw i = some r) (h : aw.ok w) (h2 : i.ok y) : ∃ d, (∀ T, ixW T w (.v y) = some (.v d)) ∧ r.ok d := by
  obtain ⟨d0, h0, hw⟩ := aw_alt h
  obtain ⟨a1, x, h1, h3, h4⟩ := mapA_ok e h0
  split at h3 <;> try (cases h3; done)
  rename_i it q
  obtain ⟨b1, z, h5, h6, h7⟩ := mapA_ok h3 h2
  split at h6 <;> try (cases h6; done)
  rename_i u v
  obtain ⟨k, rfl, g1, g2, _⟩ := aok_int.mp h5
  obtain ⟨ds, g3, g4, _⟩ := items_ok q h1
  obtain ⟨d, g5, g6⟩ := ixItems_ok h6 g4 g1 g2
  refine ⟨d, fun T => ?_, h4 _ (h7 _ g6)⟩
  have hi : w.items T = some ds := by
    rcases hw with rfl | ⟨f, xs, rfl, rfl⟩
    · exact g3 T
    · exact g3 T
  unfold ixW
  simp only [hi, g5]
def cutA (as : List A) (lo hi : Option Int) : List A := (as.drop (HT.sIx as.length 0 lo)).take (HT.sIx as.length as.length hi - HT.sIx as.length 0 lo)
/-- a bound that is known, if there is one -/
def knw : Option A → Option (Option Int)
  | none => some none
  | some (.int a b _) => if a = b then some (some a) else none
  | _ => none
def bdI : Option A → Bool
  | none => true
  | some (.int _ _ _) => true
  | _ => false
/-- a part of a row of items -/
def cutI (lo hi : Option A) : AI → Option AI
  | .ex as => (match knw lo with
    | some l => (match knw hi with
      | some h => some (.ex (cutA as l h))
      | none => some (.many (unis as) 0 as.length))
    | none => some (.many (unis as) 0 as.length))
  | .many a _ n => some (.many a 0 n)
def bdOk : Option A → Option Int → Prop
  | none, x => x = none
  | some a, x => ∃ i : Int, x = some i ∧ a.ok (.int i)
theorem knw_ok {a : Option A} {x r : Option Int} (e : knw a = some r) (h : bdOk a x) : x = r := by
  unfold knw at e
  split at e <;> try (simp only [Option.some.injEq, reduceCtorEq] at e)
  · rw [← e]; exact h
  · split at e <;> simp only [Option.some.injEq, reduceCtorEq] at e
    subst e
    obtain ⟨i, rfl, h⟩ := h
    obtain ⟨j, h1, h2, h3, _⟩ := aok_int.mp h
    cases h1
    congr 1
    omega
theorem cutI_ok {lo hi : Option A} {l h : Option Int} {it r : AI} {ds : List D} (e : cutI lo hi it = some r) (hl : bdOk lo l) (hh : bdOk hi h) (hd : it.ok ds) : r.ok (cutD ds l h) := by
  have wk : ∀ as, A.oks as ds → (AI.many (unis as) 0 as.length).ok (cutD ds l h) := fun as q => ⟨by omega, by rw [← oks_len q]; exact cutD_len, fun x m => by
    obtain ⟨a, m2, h2⟩ := oks_mem q (cutD_mem m)
    exact unis_mem m2 h2⟩
  cases it with
  | ex as =>
    simp only [cutI] at e
    split at e
    · rename_i q1
      split at e <;> simp only [Option.some.injEq] at e <;> subst e
      · rename_i q2
        rw [knw_ok q1 hl, knw_ok q2 hh]
        unfold cutD cutA
        show A.oks _ _
        rw [oks_len hd]
        exact oks_take (oks_drop hd _) _
      · exact wk as hd
    · simp only [Option.some.injEq] at e
      subst e
      exact wk as hd
  | many a m n =>
    simp only [cutI, Option.some.injEq] at e
    subst e
    exact ⟨by omega, Nat.le_trans cutD_len hd.2.1, fun x m => hd.2.2 _ (cutD_mem m)⟩
def AI.tup : AI → A
  | .ex as => .tup as
  | .many a lo hi => .tpl a lo hi
def AI.lst : AI → A
  | .ex as => .lsx as
  | .many a lo hi => .lst a lo hi
theorem aitup_ok {it : AI} {ds : List D} (h : it.ok ds) : it.tup.ok (.tup ds) := by
  cases it with
  | ex as => unfold AI.tup; rw [A.ok]; exact ⟨_, rfl, h⟩
  | many a lo hi => unfold AI.tup; rw [A.ok]; exact ⟨_, rfl, h⟩
theorem ailst_ok {it : AI} {ds : List D} (h : it.ok ds) : it.lst.ok (.lst ds) := by
  cases it with
  | ex as => unfold AI.lst; rw [A.ok]; exact ⟨_, rfl, h⟩
  | many a lo hi => unfold AI.lst; rw [A.ok]; exact ⟨_, rfl, h⟩
/-- whether a value is a list, no tuple -/
def A.isL : A → Bool
  | .lsx _ => true
  | .lst _ _ _ => true
  | _ => false
theorem isL_ok {a : A} {d : D} (e : a.isL = true) (h : a.ok d) : ∃ ds, d = .lst ds := by
  cases a <;> simp only [A.isL, reduceCtorEq] at e <;> rw [A.ok] at h
  · obtain ⟨ds, rfl, _⟩ := h; exact ⟨ds, rfl⟩
  · obtain ⟨ds, rfl, _⟩ := h; exact ⟨ds, rfl⟩
def aSl (aw : AW) (lo hi : Option A) : Option AW := match aw.a.items with
  | some it => (match cutI lo hi it with
    | some r => some (if aw.a.isL = true then .l true r.lst else .v r.tup)
    | none => none)
  | none => none
theorem aw_isL {aw : AW} {w : W} (e : aw.a.isL = true) (h : aw.ok w) : ∃ ds, (∀ T, w.seq T = some ds) ∧ aw.a.ok (.lst ds) ∧ (w = .v (.lst ds) ∨ ∃ f, w = .l f ds) := by
  cases aw with
  | v a =>
    obtain ⟨d, rfl, h⟩ := h
    obtain ⟨ds, rfl⟩ := isL_ok e h
    exact ⟨ds, fun T => rfl, h, .inl rfl⟩
  | l f a =>
    obtain ⟨xs, rfl, h⟩ := h
    exact ⟨xs, fun T => rfl, h, .inr ⟨f, rfl⟩⟩
theorem items_L {a : A} {it : AI} {ds : List D} (e : a.items = some it) (h : a.ok (.lst ds)) : it.ok ds := by
  obtain ⟨es, _, h2, h3⟩ := items_ok e h
  rcases h3 with h3 | h3 <;> cases h3
  exact h2
theorem aSl_ok {aw r : AW} {lo hi : Option A} {l h : Option Int} {w : W} (e : aSl aw lo hi = some r) (hw : aw.ok w) (hl : bdOk lo l) (hh : bdOk hi h) : ∃ v, (∀ T, slW T w l h = some v) ∧ r.ok v := by
  unfold aSl at e
  split at e <;> try (cases e; done)
  rename_i it q
  split at e <;> simp only [Option.some.injEq, reduceCtorEq] at e
  rename_i q2
  subst e
  split
  · rename_i hL
    obtain ⟨ds, h1, h2, h3⟩ := aw_isL hL hw
    have h4 := items_L q h2
    refine ⟨.l true (cutD ds l h), fun T => ?_, _, rfl, ailst_ok (cutI_ok q2 hl hh h4)⟩
    rcases h3 with rfl | ⟨f, rfl⟩ <;> rfl
  · rename_i hL
    cases aw with
    | l f a =>
      obtain ⟨xs, rfl, hw⟩ := hw
      have h4 := items_L q hw
      obtain ⟨es, _, h2, h3⟩ := items_ok q hw
      rcases h3 with h3 | h3 <;> cases h3
      exfalso
      cases a <;> simp only [A.items, reduceCtorEq, AW.a] at q <;> simp only [A.isL, not_true, AW.a] at hL <;> rw [A.ok] at hw
      · obtain ⟨_, _, h9, _⟩ := hw; cases h9
      · obtain ⟨_, h9, _⟩ := hw; cases h9
      · obtain ⟨_, h9, _⟩ := hw; cases h9
    | v a =>
      obtain ⟨d, rfl, hw⟩ := hw
      obtain ⟨es, h1, h2, h3⟩ := items_ok q hw
      rcases h3 with rfl | rfl
      · exact ⟨.v (.tup (cutD es l h)), fun T => rfl, _, rfl, aitup_ok (cutI_ok q2 hl hh h2)⟩
      · exfalso
        cases a <;> simp only [A.items, reduceCtorEq, AW.a] at q <;> simp only [A.isL, not_true, AW.a] at hL <;> rw [A.ok] at hw
        · obtain ⟨_, _, h9, _⟩ := hw; cases h9
        · obtain ⟨_, h9, _⟩ := hw; cases h9
        · obtain ⟨_, h9, _⟩ := hw; cases h9
end Ev
/-! Built-ins, targets at what values may be. -/
namespace Ev
open PySem
def isiA (t : Ty) : A → Option Bool
  | .non => some false
  | .bl _ => some (match t with | .int => true | .bool => true | _ => false)
  | .int _ _ _ => some (match t with | .int => true | _ => false)
  | .str _ => some (match t with | .str => true | _ => false)
  | .tup _ => some (match t with | .tuple => true | _ => false)
  | .num _ _ _ _ => some (match t with | .tuple => true | _ => false)
  | .tpl _ _ _ => some (match t with | .tuple => true | _ => false)
  | .lsx _ => some (match t with | .list => true | _ => false)
  | .lst _ _ _ => some (match t with | .list => true | _ => false)
  | _ => none
theorem isiA_ok {t : Ty} {aw : AW} {w : W} {b : Bool} (e : isiA t aw.a = some b) (h : aw.ok w) : isiW t w = some b := by
  obtain ⟨d, hd, hw⟩ := aw_alt h
  generalize aw.a = a at *
  cases a <;> simp only [isiA, Option.some.injEq, reduceCtorEq] at e <;> rw [A.ok] at hd <;> subst e
  · obtain ⟨i, rfl, _⟩ := hd; rcases hw with rfl | ⟨f, xs, rfl, h9⟩ <;> first | rfl | cases h9
  · obtain ⟨i, j, rfl, _⟩ := hd; rcases hw with rfl | ⟨f, xs, rfl, h9⟩ <;> first | rfl | cases h9
  · obtain ⟨i, rfl, _⟩ := hd; rcases hw with rfl | ⟨f, xs, rfl, h9⟩ <;> first | rfl | cases h9
  · obtain ⟨i, rfl, _⟩ := hd; rcases hw with rfl | ⟨f, xs, rfl, h9⟩ <;> first | rfl | cases h9
  · subst hd; rcases hw with rfl | ⟨f, xs, rfl, h9⟩ <;> first | rfl | cases h9
  · obtain ⟨i, rfl, _⟩ := hd; rcases hw with rfl | ⟨f, xs, rfl, h9⟩ <;> first | rfl | cases h9
  · obtain ⟨i, rfl, _⟩ := hd; rcases hw with rfl | ⟨f, xs, rfl, h9⟩ <;> first | rfl | cases h9
  · obtain ⟨i, rfl, _⟩ := hd; rcases hw with rfl | ⟨f, xs, rfl, h9⟩ <;> rfl
  · obtain ⟨i, rfl, _⟩ := hd; rcases hw with rfl | ⟨f, xs, rfl, h9⟩ <;> rfl
/-- the ranges of ints in a row of items: how many, from, to -/
def intsA : List A → Option (List (Int × Int))
  | [] => some []
  | .int a b _ :: as => match intsA as with
    | some xs => some ((a, b) :: xs)
    | none => none
  | _ :: _ => none
def sumR : List (Int × Int) → Int × Int
  | [] => (0, 0)
  | (a, b) :: xs => (a + (sumR xs).1, b + (sumR xs).2)
theorem intsA_ok {as : List A} {rs : List (Int × Int)} {ds : List D} (e : intsA as = some rs) (h : A.oks as ds) : ∃ is : List Int, intsD ds = some is ∧ (sumR rs).1 ≤ is.sum ∧ is.sum ≤ (sumR rs).2 := by
  induction as generalizing rs ds with
  | nil =>
    rw [A.oks] at h
    simp only [intsA, Option.some.injEq] at e
    subst e h
    exact ⟨[], rfl, by decide, by decide⟩
  | cons a as ih =>
    rw [A.oks] at h
    obtain ⟨x, xs, rfl, h1, h2⟩ := h
    cases a <;> simp only [intsA, reduceCtorEq] at e
    split at e <;> simp only [Option.some.injEq, reduceCtorEq] at e
    rename_i q
    subst e
    obtain ⟨i, rfl, h3, h4, _⟩ := aok_int.mp h1
    obtain ⟨is, h5, h6, h7⟩ := ih q h2
    refine ⟨i :: is, by rw [intsD, h5], ?_, ?_⟩ <;> rw [List.sum_cons] <;> unfold sumR <;> simp only <;> omega
theorem intsA_many {a b : Int} {o : Bool} {ds : List D} (h : ∀ x, x ∈ ds → (A.int a b o).ok x) : ∃ is : List Int, intsD ds = some is ∧ is.length = ds.length ∧ ∀ i, i ∈ is → a ≤ i ∧ i ≤ b := by
  induction ds with
  | nil => exact ⟨[], rfl, rfl, fun i m => by cases m⟩
  | cons d ds ih =>
    obtain ⟨i, rfl, h3, h4, _⟩ := aok_int.mp (h d List.mem_cons_self)
    obtain ⟨is, h5, h6, h7⟩ := ih fun x m => h x (List.mem_cons_of_mem _ m)
    refine ⟨i :: is, by rw [intsD, h5], by rw [List.length_cons, List.length_cons, h6], fun j m => ?_⟩
    cases m with
    | head => exact ⟨h3, h4⟩
    | tail _ m => exact h7 j m
theorem sum_many {is : List Int} {a b : Int} (h : ∀ i, i ∈ is → a ≤ i ∧ i ≤ b) : is.length * a ≤ is.sum ∧ is.sum ≤ is.length * b := by
  induction is with
  | nil => simp
  | cons i is ih =>
    have h1 := h i List.mem_cons_self
    have h2 := ih fun j m => h j (List.mem_cons_of_mem _ m)
    rw [List.length_cons, List.sum_cons]
    have e : ∀ x : Int, ((is.length + 1 : Nat) : Int) * x = is.length * x + x := fun x => by
      rw [Int.natCast_add, Int.add_mul]
      simp
    rw [e, e]
    omega
def blsA : List A → Option (List (Option Bool))
  | [] => some []
  | .bl b :: as => match blsA as with
    | some xs => some (b :: xs)
    | none => none
  | _ :: _ => none
def allR (bs : List (Option Bool)) : Option Bool := if bs.all (fun b => decide (b = some true)) = true then some true else if bs.any (fun b => decide (b = some false)) = true then some false else none
def anyR (bs : List (Option Bool)) : Option Bool := if bs.all (fun b => decide (b = some false)) = true then some false else if bs.any (fun b => decide (b = some true)) = true then some true else none
theorem blsA_ok {as : List A} {rs : List (Option Bool)} {ds : List D} (e : blsA as = some rs) (h : A.oks as ds) : ∃ bs : List Bool, blsD ds = some bs ∧ (allR rs = none ∨ allR rs = some (bs.all id)) ∧ (anyR rs = none ∨ anyR rs = some (bs.any id)) := by
  suffices q : ∃ bs : List Bool, blsD ds = some bs ∧ (rs.all (fun b => decide (b = some true)) = true → bs.all id = true) ∧ (rs.any (fun b => decide (b = some false)) = true → bs.all id = false) ∧ (rs.all (fun b => decide (b = some false)) = true → bs.any id = false) ∧ (rs.any (fun b => decide (b = some true)) = true → bs.any id = true) by
    obtain ⟨bs, h1, h2, h3, h4, h5⟩ := q
    refine ⟨bs, h1, ?_, ?_⟩
    · unfold allR
      split
      · rename_i q; exact .inr (by rw [h2 q])
      split
      · rename_i q; exact .inr (by rw [h3 q])
      · exact .inl rfl
    · unfold anyR
      split
      · rename_i q; exact .inr (by rw [h4 q])
      split
      · rename_i q; exact .inr (by rw [h5 q])
      · exact .inl rfl
  induction as generalizing rs ds with
  | nil =>
    rw [A.oks] at h
    simp only [blsA, Option.some.injEq] at e
    subst e h
    exact ⟨[], rfl, by simp, by simp, by simp, by simp⟩
  | cons a as ih =>
    rw [A.oks] at h
    obtain ⟨x, xs, rfl, h1, h2⟩ := h
    cases a <;> simp only [blsA, reduceCtorEq] at e
    split at e <;> simp only [Option.some.injEq, reduceCtorEq] at e
    rename_i q
    subst e
    obtain ⟨b, rfl, h3⟩ := aok_bl.mp h1
    obtain ⟨bs, h4, h5, h6, h7, h8⟩ := ih q h2
    refine ⟨b :: bs, by rw [blsD, h4], ?_, ?_, ?_, ?_⟩ <;> simp only [List.all_cons, List.any_cons, Bool.and_eq_true, Bool.or_eq_true, decide_eq_true_eq, id]
    · rintro ⟨rfl, g⟩
      simp at h3
      subst h3
      simp [h5 g]
    · rintro (rfl | g)
      · simp at h3
        subst h3
        simp
      · rw [h6 g]
        simp
    · rintro ⟨rfl, g⟩
      simp at h3
      subst h3
      simp [h7 g]
    · rintro (rfl | g)
      · simp at h3
        subst h3
        simp
      · rw [h8 g]
        simp
theorem blsA_many {b : Option Bool} {ds : List D} (h : ∀ x, x ∈ ds → (A.bl b).ok x) : ∃ bs : List Bool, blsD ds = some bs ∧ (b = some true → bs.all id = true) ∧ (b = some false → bs.any id = false) := by
  induction ds with
  | nil => exact ⟨[], rfl, fun _ => rfl, fun _ => rfl⟩
  | cons d ds ih =>
    obtain ⟨x, rfl, h3⟩ := aok_bl.mp (h d List.mem_cons_self)
    obtain ⟨bs, h5, h6, h7⟩ := ih fun x m => h x (List.mem_cons_of_mem _ m)
    refine ⟨x :: bs, by rw [blsD, h5], fun e => ?_, fun e => ?_⟩
    · rw [e] at h3
      simp at h3
      subst h3
      rw [List.all_cons, h6 e]
      rfl
    · rw [e] at h3
      simp at h3
      subst h3
      rw [List.any_cons, h7 e]
      rfl
def aB1 (b : B1) (aw : AW) : Option AW := match b with
  | .len => (match aw.a.items with
    | some (.ex as) => some (.v (.int as.length as.length false))
    | some (.many _ lo hi) => some (.v (.int lo hi false))
    | none => none)
  | .abs => (match mapA (fun x => match x with
      | .int a b o => some (if 0 ≤ a then .int a b o else if b ≤ 0 then .int (-b) (-a) o else .int 0 (mxI (-a) b) o)
      | _ => none) aw.a with
    | some r => some (.v r)
    | none => none)
  | .int => (match mapA (fun x => match x with
      | .int a b o => some (.int a b o)
      | .bl _ => some (.int 0 1 false)
      | _ => none) aw.a with
    | some r => some (.v r)
    | none => none)
  | .tuple => (match aw.a.items with
    | some it => some (.v it.tup)
    | none => none)
  | .list => (match aw.a.items with
    | some it => some (.l true it.lst)
    | none => none)
  | .rev => if aw.a.isL = true then (match aw.a.items with
    | some (.ex as) => some (.l true (.lsx as.reverse))
    | some (.many a lo hi) => some (.l true (.lst a lo hi))
    | none => none) else none
  | .sum => if aw.a.isL = true then (match aw.a.items with
    | some (.ex as) => (match intsA as with
      | some rs => some (.v (.int (sumR rs).1 (sumR rs).2 false))
      | none => none)
    | some (.many (.int a b _) _ hi) => some (.v (.int (mnI 0 (hi * a)) (mxI 0 (hi * b)) false))
    | _ => none) else none
  | .all => if aw.a.isL = true then (match aw.a.items with
    | some (.ex as) => (match blsA as with
      | some rs => some (.v (.bl (allR rs)))
      | none => none)
    | some (.many (.bl b) _ _) => some (.v (.bl (if b = some true then some true else none)))
    | _ => none) else none
  | .any => if aw.a.isL = true then (match aw.a.items with
    | some (.ex as) => (match blsA as with
      | some rs => some (.v (.bl (anyR rs)))
      | none => none)
    | some (.many (.bl b) _ _) => some (.v (.bl (if b = some false then some false else none)))
    | _ => none) else none
  | _ => none
theorem w_v {d : D} {w : W} (hw : w = .v d ∨ ∃ f xs, w = .l f xs ∧ d = .lst xs) (hd : ∀ xs, d ≠ .lst xs) : w = .v d := by
  rcases hw with hw | ⟨f, xs, _, h⟩
  · exact hw
  · exact absurd h (hd xs)
theorem aB1_ok {b : B1} {aw r : AW} {w : W} (e : aB1 b aw = some r) (h : aw.ok w) : ∃ v, (∀ T, b1W b T w = some v) ∧ r.ok v := by
  cases b <;> simp only [aB1, reduceCtorEq] at e
  case len =>
    split at e <;> simp only [Option.some.injEq, reduceCtorEq] at e <;> subst e <;> rename_i q <;> obtain ⟨ds, h1, h2⟩ := witems_ok q h
    · refine ⟨.v (.int ds.length), fun T => ?_, _, rfl, aok_int.mpr ⟨_, rfl, ?_, ?_, fun h => by cases h⟩⟩
      · show lenW T w = _
        unfold lenW
        rw [h1 T]
      · rw [oks_len h2]; omega
      · rw [oks_len h2]; omega
    · obtain ⟨h3, h4, _⟩ := h2
      refine ⟨.v (.int ds.length), fun T => ?_, _, rfl, aok_int.mpr ⟨_, rfl, by omega, by omega, fun h => by cases h⟩⟩
      show lenW T w = _
      unfold lenW
      rw [h1 T]
  case abs =>
    split at e <;> simp only [Option.some.injEq, reduceCtorEq] at e
    rename_i q
    subst e
    obtain ⟨d, hd, hw⟩ := aw_alt h
    obtain ⟨a1, x, h1, h2, h3⟩ := mapA_ok q hd
    split at h2 <;> simp only [Option.some.injEq, reduceCtorEq] at h2
    subst h2
    obtain ⟨i, rfl, g1, g2, g3⟩ := aok_int.mp h1
    have := w_v hw (fun xs h => by cases h)
    subst this
    refine ⟨_, fun T => x_abs, _, rfl, h3 _ ?_⟩
    split
    · rw [if_neg (by omega)]
      exact aok_int.mpr ⟨_, rfl, g1, g2, g3⟩
    split
    · refine aok_int.mpr ⟨_, rfl, ?_, ?_, fun h => ?_⟩ <;> split <;> first | omega | (have := g3 h; omega)
    · rename_i lo hi o _ _
      have m1 := @mxI_l (-lo) hi
      have m2 := @mxI_r (-lo) hi
      refine aok_int.mpr ⟨_, rfl, ?_, ?_, fun h => ?_⟩ <;> split <;> first | omega | (have := g3 h; omega)
  case int =>
    split at e <;> simp only [Option.some.injEq, reduceCtorEq] at e
    rename_i q
    subst e
    obtain ⟨d, hd, hw⟩ := aw_alt h
    obtain ⟨a1, x, h1, h2, h3⟩ := mapA_ok q hd
    split at h2 <;> simp only [Option.some.injEq, reduceCtorEq] at h2
    · subst h2
      obtain ⟨i, rfl, g⟩ := aok_int.mp h1
      have := w_v hw (fun xs h => by cases h)
      subst this
      exact ⟨_, fun T => x_int, _, rfl, h3 _ (aok_int.mpr ⟨_, rfl, g⟩)⟩
    · subst h2
      obtain ⟨i, rfl, g⟩ := aok_bl.mp h1
      have := w_v hw (fun xs h => by cases h)
      subst this
      refine ⟨.v (.int (if i then 1 else 0)), fun T => rfl, _, rfl, h3 _ (aok_int.mpr ⟨_, rfl, ?_, ?_, fun h => by cases h⟩)⟩ <;> cases i <;> decide
  case tuple =>
    split at e <;> simp only [Option.some.injEq, reduceCtorEq] at e
    rename_i it q
    subst e
    obtain ⟨d, hd, hw⟩ := aw_alt h
    obtain ⟨ds, h1, h2, h3⟩ := items_ok q hd
    refine ⟨.v (.tup ds), fun T => ?_, _, rfl, aitup_ok h2⟩
    rcases hw with rfl | ⟨f, xs, rfl, rfl⟩
    · rcases h3 with rfl | rfl <;> rfl
    · rcases h3 with h3 | h3 <;> cases h3
      rfl
  case list =>
    split at e <;> simp only [Option.some.injEq, reduceCtorEq] at e
    rename_i it q
    subst e
    obtain ⟨ds, h1, h2⟩ := witems_ok q h
    refine ⟨.l true ds, fun T => ?_, _, rfl, ailst_ok h2⟩
    show (match w.items T with | some xs => some (W.l true xs) | none => none) = _
    rw [h1 T]
  case rev =>
    split at e <;> try (cases e; done)
    rename_i hL
    obtain ⟨ds, g1, g2, _⟩ := aw_isL hL h
    have gs : ∀ T, b1W .rev T w = some (.l true ds.reverse) := fun T => by
      show (match w.seq T with | some xs => some (W.l true xs.reverse) | none => none) = _
      rw [g1 T]
    split at e <;> simp only [Option.some.injEq, reduceCtorEq] at e <;> subst e <;> rename_i q <;> have h4 := items_L q g2
    · exact ⟨_, gs, _, rfl, by rw [A.ok]; exact ⟨_, rfl, oks_rev h4⟩⟩
    · refine ⟨_, gs, _, rfl, ?_⟩
      rw [A.ok]
      exact ⟨_, rfl, by rw [List.length_reverse]; exact h4.1, by rw [List.length_reverse]; exact h4.2.1, fun x m => h4.2.2 x (List.mem_reverse.mp m)⟩
  case sum =>
    split at e <;> try (cases e; done)
    rename_i hL
    obtain ⟨ds, g1, g2, _⟩ := aw_isL hL h
    have gs : ∀ {is : List Int}, intsD ds = some is → ∀ T, b1W .sum T w = some (.v (.int is.sum)) := fun q T => by
      show onInts T w _ = _
      unfold onInts
      rw [g1 T]
      simp only [q]
    split at e <;> try (cases e; done)
    · rename_i q
      split at e <;> simp only [Option.some.injEq, reduceCtorEq] at e
      rename_i q2
      subst e
      obtain ⟨is, h5, h6, h7⟩ := intsA_ok q2 (items_L q g2)
      exact ⟨_, gs h5, _, rfl, aok_int.mpr ⟨_, rfl, h6, h7, fun h => by cases h⟩⟩
    · rename_i a b o lo hi q
      simp only [Option.some.injEq] at e
      subst e
      have h4 := items_L q g2
      obtain ⟨is, h5, h6, h7⟩ := intsA_many h4.2.2
      have h8 := sum_many h7
      rw [h6] at h8
      refine ⟨_, gs h5, _, rfl, aok_int.mpr ⟨_, rfl, ?_, ?_, fun h => by cases h⟩⟩
      · have m1 := @mnI_l 0 (hi * a)
        have m2 := @mnI_r 0 (hi * a)
        have hl := h4.2.1
        rcases Int.le_total 0 a with ha | ha
        · have : 0 ≤ (ds.length : Int) * a := Int.mul_nonneg (by omega) ha
          omega
        · have q := Int.mul_le_mul_of_nonneg_right (a := (ds.length : Int)) (b := hi) (c := -a) (by omega) (by omega)
          rw [Int.mul_neg, Int.mul_neg] at q
          omega
      · have m1 := @mxI_l 0 (hi * b)
        have m2 := @mxI_r 0 (hi * b)
        have hl := h4.2.1
        rcases Int.le_total 0 b with ha | ha
        · have := Int.mul_le_mul_of_nonneg_right (a := (ds.length : Int)) (b := hi) (c := b) (by omega) ha
          omega
        · have q := Int.mul_le_mul_of_nonneg_right (a := 0) (b := (ds.length : Int)) (c := -b) (by omega) (by omega)
          rw [Int.mul_neg, Int.mul_neg] at q
          omega
  case all =>
    split at e <;> try (cases e; done)
    rename_i hL
    obtain ⟨ds, g1, g2, _⟩ := aw_isL hL h
    have gs : ∀ {is : List Bool}, blsD ds = some is → ∀ T, b1W .all T w = some (.v (.bl (is.all id))) := fun q T => by
      show onBls T w _ = _
      unfold onBls
      rw [g1 T]
      simp only [q]
    split at e <;> try (cases e; done)
    · rename_i q
      split at e <;> simp only [Option.some.injEq, reduceCtorEq] at e
      rename_i q2
      subst e
      obtain ⟨is, h5, h6, h7⟩ := blsA_ok q2 (items_L q g2)
      exact ⟨_, gs h5, _, rfl, aok_bl.mpr ⟨_, rfl, h6⟩⟩
    · rename_i b lo hi q
      simp only [Option.some.injEq] at e
      subst e
      obtain ⟨is, h5, h6, h7⟩ := blsA_many (items_L q g2).2.2
      refine ⟨_, gs h5, _, rfl, aok_bl.mpr ⟨_, rfl, ?_⟩⟩
      split
      · rename_i hb
        rw [h6 hb]
        exact .inr rfl
      · exact .inl rfl
  case any =>
    split at e <;> try (cases e; done)
    rename_i hL
    obtain ⟨ds, g1, g2, _⟩ := aw_isL hL h
    have gs : ∀ {is : List Bool}, blsD ds = some is → ∀ T, b1W .any T w = some (.v (.bl (is.any id))) := fun q T => by
      show onBls T w _ = _
      unfold onBls
      rw [g1 T]
      simp only [q]
    split at e <;> try (cases e; done)
    · rename_i q
      split at e <;> simp only [Option.some.injEq, reduceCtorEq] at e
      rename_i q2
      subst e
      obtain ⟨is, h5, h6, h7⟩ := blsA_ok q2 (items_L q g2)
      exact ⟨_, gs h5, _, rfl, aok_bl.mpr ⟨_, rfl, h7⟩⟩
    · rename_i b lo hi q
      simp only [Option.some.injEq] at e
      subst e
      obtain ⟨is, h5, h6, h7⟩ := blsA_many (items_L q g2).2.2
      refine ⟨_, gs h5, _, rfl, aok_bl.mpr ⟨_, rfl, ?_⟩⟩
      split
      · rename_i hb
        rw [h7 hb]
        exact .inr rfl
      · exact .inl rfl
def aB2 (b : B2) (x y : A) : Option A := mapA (fun x => mapA (fun y => match x, y with
  | .int a b1 o, .int c d q => some (match b with
    | .max => .int (mxI a c) (mxI b1 d) (o && q)
    | .min => .int (mnI a c) (mnI b1 d) (o && q))
  | _, _ => none) y) x
theorem aB2_ok {b : B2} {x y r : A} {d e : D} (h : aB2 b x y = some r) (h1 : x.ok d) (h2 : y.ok e) : ∃ v, b2W b (.v d) (.v e) = some (.v v) ∧ r.ok v := by
  obtain ⟨a1, u, g1, g2, g3⟩ := mapA_ok h h1
  obtain ⟨b1, v, g4, g5, g6⟩ := mapA_ok g2 h2
  split at g5 <;> simp only [Option.some.injEq, reduceCtorEq] at g5
  subst g5
  obtain ⟨i, rfl, k1, k2, k3⟩ := aok_int.mp g1
  obtain ⟨j, rfl, k4, k5, k6⟩ := aok_int.mp g4
  cases b
  · refine ⟨_, x_min, g3 _ (g6 _ (aok_int.mpr ⟨_, rfl, ?_, ?_, fun h => ?_⟩))⟩
    · unfold mnI; split <;> split <;> omega
    · unfold mnI; split <;> split <;> omega
    · rw [Bool.and_eq_true] at h
      have := k3 h.1
      have := k6 h.2
      split <;> omega
  · refine ⟨_, x_max, g3 _ (g6 _ (aok_int.mpr ⟨_, rfl, ?_, ?_, fun h => ?_⟩))⟩
    · unfold mxI; split <;> split <;> omega
    · unfold mxI; split <;> split <;> omega
    · rw [Bool.and_eq_true] at h
      have := k3 h.1
      have := k6 h.2
      split <;> omega
/-! targets -/
mutual
def aAsg : Tg → A → AEn → Option AEn
  | .var i, a, η => if i < η.length then some (η.set i (.val a)) else none
  | .tup ts, a, η => match a with
    | .tup as => aAsgL ts as η
    | .num k lo hi nz => (match (A.num k lo hi nz).items with
      | some (.ex as) => aAsgL ts as η
      | _ => none)
    | _ => none
def aAsgL : List Tg → List A → AEn → Option AEn
  | [], [], η => some η
  | t :: ts, a :: as, η => match aAsg t a η with
    | some η' => aAsgL ts as η'
    | none => none
  | _, _, _ => none
end
mutual
theorem aAsg_ok : ∀ (t : Tg) {a : A} {d : D} {as as' : AEn} {η : En}, aAsg t a as = some as' → a.ok d → as.ok η → ∃ η', asgT t d η = some η' ∧ as'.ok η'
  | .var i, a, d, as, as', η, e, h, hη => by
    rw [aAsg] at e
    split at e <;> simp only [Option.some.injEq, reduceCtorEq] at e
    rename_i q
    subst e
    refine ⟨η.put i (.val d), ?_, aen_set hη ⟨d, rfl, h⟩⟩
    rw [t_var, if_pos (by rw [aen_len hη]; exact q)]
  | .tup ts, a, d, as, as', η, e, h, hη => by
    cases a <;> simp only [aAsg, reduceCtorEq] at e
    · rename_i k lo hi nz
      split at e <;> try (cases e; done)
      rename_i xs q
      obtain ⟨ds, h1, h2, h3⟩ := items_ok q h
      have : d = .tup ds := by
        rcases h3 with h3 | h3
        · exact h3
        · rw [A.ok] at h
          obtain ⟨x, b, rfl, _⟩ := h
          cases h3
      subst this
      rw [t_tup]
      exact aAsgL_ok ts e h2 hη
    · rw [A.ok] at h
      obtain ⟨ds, rfl, h⟩ := h
      rw [t_tup]
      exact aAsgL_ok ts e h hη
theorem aAsgL_ok : ∀ (ts : List Tg) {bs : List A} {ds : List D} {as as' : AEn} {η : En}, aAsgL ts bs as = some as' → A.oks bs ds → as.ok η → ∃ η', asgL ts ds η = some η' ∧ as'.ok η'
  | [], [], ds, as, as', η, e, h, hη => by
    simp only [aAsgL, Option.some.injEq] at e
    rw [A.oks] at h
    subst e h
    exact ⟨η, t_n, hη⟩
  | [], b :: bs, ds, as, as', η, e, h, hη => by simp [aAsgL] at e
  | t :: ts, [], ds, as, as', η, e, h, hη => by simp [aAsgL] at e
  | t :: ts, b :: bs, ds, as, as', η, e, h, hη => by
    rw [aAsgL] at e
    split at e <;> try (cases e; done)
    rename_i q
    rw [A.oks] at h
    obtain ⟨x, xs, rfl, h1, h2⟩ := h
    obtain ⟨η', h3, h4⟩ := aAsg_ok t q h1 hη
    obtain ⟨η2, h5, h6⟩ := aAsgL_ok ts e h2 h4
    exact ⟨η2, by rw [t_c, h3]; exact h5, h6⟩
end
end Ev
/-! Expressions at what values may be. -/
namespace Ev
open PySem
def ofD : D → Option A
  | .non => some .non
  | .bl b => some (.bl (some b))
  | .int i => some (.int i i (decide (i % 2 = 1)))
  | .str s => some (.str [s])
  | _ => none
theorem ofD_ok {d : D} {a : A} (e : ofD d = some a) : a.ok d := by
  unfold ofD at e
  split at e <;> simp only [Option.some.injEq, reduceCtorEq] at e <;> subst e
  · rw [A.ok]
  · exact aok_bl.mpr ⟨_, rfl, .inr rfl⟩
  · exact aok_int.mpr ⟨_, rfl, by omega, by omega, fun h => of_decide_eq_true h⟩
  · rw [A.ok]; exact ⟨_, rfl, List.mem_singleton.mpr rfl⟩
def awUni : AW → AW → Option AW
  | .v a, .v b => some (.v (a.uni b))
  | .l f a, .l g b => if f = g then some (.l f (a.uni b)) else none
  | _, _ => none
theorem awUni_ok {a b c : AW} {w : W} (e : awUni a b = some c) (h : a.ok w ∨ b.ok w) : c.ok w := by
  unfold awUni at e
  split at e
  · simp only [Option.some.injEq] at e
    subst e
    rcases h with ⟨d, rfl, h⟩ | ⟨d, rfl, h⟩
    · exact ⟨d, rfl, uni_l h⟩
    · exact ⟨d, rfl, uni_r h⟩
  · split at e <;> simp only [Option.some.injEq, reduceCtorEq] at e
    rename_i hf
    subst e hf
    rcases h with ⟨d, rfl, h⟩ | ⟨d, rfl, h⟩
    · exact ⟨d, rfl, uni_l h⟩
    · exact ⟨d, rfl, uni_r h⟩
  · cases e
def bOf : AW → Option (Option Bool)
  | .v (.bl b) => some b
  | _ => none
theorem bOf_ok {aw : AW} {w : W} {b : Option Bool} (e : bOf aw = some b) (h : aw.ok w) : ∃ r, w = .v (.bl r) ∧ (b = none ∨ b = some r) := by
  unfold bOf at e
  split at e <;> simp only [Option.some.injEq, reduceCtorEq] at e
  subst e
  obtain ⟨d, rfl, h⟩ := h
  obtain ⟨r, rfl, h2⟩ := aok_bl.mp h
  exact ⟨r, rfl, h2⟩
/-! what a condition tells of the names -/
def effOp : CmpOp → Bool → Option CmpOp
  | .Lt, r => some (if r = true then .Lt else .GtE)
  | .LtE, r => some (if r = true then .LtE else .Gt)
  | .Gt, r => some (if r = true then .Gt else .LtE)
  | .GtE, r => some (if r = true then .GtE else .Lt)
  | .Eq, r => some (if r = true then .Eq else .NotEq)
  | .NotEq, r => some (if r = true then .NotEq else .Eq)
  | _, _ => none
def relI : CmpOp → Int → Int → Prop
  | .Lt, i, c => i < c
  | .LtE, i, c => i ≤ c
  | .Gt, i, c => c < i
  | .GtE, i, c => c ≤ i
  | .Eq, i, c => i = c
  | .NotEq, i, c => i ≠ c
  | _, _, _ => True
theorem eff_ok {op op' : CmpOp} {r : Bool} {i c : Int} {T : Sto} (e : effOp op r = some op') (h : cmpW op T (.v (.int i)) (.v (.int c)) = some r) : relI op' i c := by
  cases op <;> simp only [effOp, Option.some.injEq, reduceCtorEq] at e <;> subst e
  · rw [c_eq] at h; have h := Option.some.inj h; subst h; split <;> rename_i q <;> simp at q <;> exact q
  · rw [c_ne] at h; have h := Option.some.inj h; subst h; split <;> rename_i q <;> simp at q <;> exact q
  · rw [c_lt] at h; have h := Option.some.inj h; subst h; split <;> rename_i q <;> simp at q <;> exact q
  · rw [c_le] at h; have h := Option.some.inj h; subst h; split <;> rename_i q <;> simp at q <;> exact q
  · rw [c_gt] at h; have h := Option.some.inj h; subst h; split <;> rename_i q <;> simp at q <;> exact q
  · rw [c_ge] at h; have h := Option.some.inj h; subst h; split <;> rename_i q <;> simp at q <;> exact q
def rfLo (op : CmpOp) (c lo : Int) : Int := match op with
  | .Gt => mxI lo (c + 1)
  | .GtE => mxI lo c
  | .Eq => mxI lo c
  | .NotEq => if lo = c then lo + 1 else lo
  | _ => lo
def rfHi (op : CmpOp) (c hi : Int) : Int := match op with
  | .Lt => mnI hi (c - 1)
  | .LtE => mnI hi c
  | .Eq => mnI hi c
  | .NotEq => if hi = c then hi - 1 else hi
  | _ => hi
theorem rfLo_ok {op : CmpOp} {c lo i : Int} (h : lo ≤ i) (hr : relI op i c) : rfLo op c lo ≤ i := by
  unfold rfLo mxI
  cases op <;> simp only [relI] at hr <;> simp only <;> (try split) <;> omega
theorem rfHi_ok {op : CmpOp} {c hi i : Int} (h : i ≤ hi) (hr : relI op i c) : i ≤ rfHi op c hi := by
  unfold rfHi mnI
  cases op <;> simp only [relI] at hr <;> simp only <;> (try split) <;> omega
def rfV (op : CmpOp) (r : Bool) (c : Int) (i : Nat) (η : AEn) : Option AEn := match η.get i with
  | .val (.int lo hi o) => (match effOp op r with
    | some op => if rfHi op c hi < rfLo op c lo then none else some (η.set i (.val (.int (rfLo op c lo) (rfHi op c hi) o)))
    | none => some η)
  | _ => some η
theorem put_get {η : En} {i : Nat} : η.put i (η.get i) = η := by
  unfold En.put En.get
  rw [List.getD_eq_getElem?_getD]
  by_cases h : i < η.length
  · simp [h]
  · rw [List.set_eq_of_length_le (by omega)]
theorem aen_ref {as : AEn} {η : En} {i : Nat} {a : AS} (h : as.ok η) (ha : a.ok (η.get i)) : AEn.ok (as.set i a) η := by
  have := aen_set (i := i) h ha
  rw [put_get] at this
  exact this
def rfZ (z : Bool) (i : Nat) (η : AEn) : AEn := match η.get i with
  | .val (.num k lo hi nz) => η.set i (.val (if z = true then .num 0 lo hi false else .num k lo hi true))
  | _ => η
def rf : E → Bool → AEn → Option AEn
  | .cmp op (.var i) (.cst (.int c)), r, η => rfV op r c i η
  | .cmp op (.var i) (.tup [.cst (.int 0), .cst (.int 0)]), r, η => (match isPos op with
    | some p => some (rfZ (p == r) i η)
    | none => some η)
  | .not a, r, η => rf a (!r) η
  | .and a b, r, η => if r = true then (match rf a true η with
    | some η1 => rf b true η1
    | none => none) else some η
  | .or a b, r, η => if r = false then (match rf a false η with
    | some η1 => rf b false η1
    | none => none) else some η
  | _, _, η => some η
theorem bind_inv {α β : Type} {r : Re α} {f : α → Sto → Re β} {b : β} {T : Sto} (h : r.bind f = .ok b T) : ∃ a T1, r = .ok a T1 ∧ f a T1 = .ok b T := by
  cases r with
  | ok a T1 => exact ⟨a, T1, rfl, h⟩
  | ex => cases h
  | no => cases h
theorem rf_ok {c : Call} : ∀ (n : Nat) (e : E), sizeOf e ≤ n → ∀ {r : Bool} {as : AEn} {η : En} {T T' : Sto}, as.ok η → evE c e η T = .ok (.v (.bl r)) T' → ∃ as', rf e r as = some as' ∧ as'.ok η := by
  intro n
  induction n with
  | zero => intro e h; cases e <;> simp at h <;> omega
  | succ n ih =>
    intro e hn r as η T T' h q
    unfold rf
    split
    · rename_i op i z
      have hg := aen_get (i := i) h
      unfold rfV
      split
      · rename_i lo hi o q2
        rw [q2] at hg
        obtain ⟨d, h1, h2⟩ := hg
        obtain ⟨j, rfl, h3, h4, h5⟩ := aok_int.mp h2
        split
        · rename_i op' q3
          simp only [e_cmp, e_var, e_cst, h1, Re.bind_ok] at q
          obtain ⟨k, T1, q4, q5⟩ := bind_inv q
          cases hc : cmpW op T (.v (.int j)) (.v (.int z)) with
          | none => rw [hc] at q4; cases q4
          | some kk =>
            rw [hc] at q4
            cases q4
            cases q5
            have hr := eff_ok q3 hc
            have e1 := rfLo_ok h3 hr
            have e2 := rfHi_ok h4 hr
            rw [if_neg (by omega)]
            exact ⟨_, rfl, aen_ref h (by rw [h1]; exact ⟨_, rfl, aok_int.mpr ⟨_, rfl, e1, e2, h5⟩⟩)⟩
        · exact ⟨_, rfl, h⟩
      · exact ⟨_, rfl, h⟩
    · rename_i op i
      have hg := aen_get (i := i) h
      split
      · rename_i p q3
        refine ⟨_, rfl, ?_⟩
        unfold rfZ
        split
        · rename_i k lo hi nz q2
          rw [q2] at hg
          obtain ⟨d, h1, h2⟩ := hg
          obtain ⟨x, b, rfl, h3, h4, h5, h6⟩ := aok_num.mp h2
          simp only [e_cmp, e_var, e_tup, e_cst, d_n, d_c, h1, Re.bind_ok, W.st_v] at q
          obtain ⟨kk, T1, q4, q5⟩ := bind_inv q
          have e0 : D.tup [.int 0, .int 0] = N 0 b := rfl
          have hd : decide (num x b = num 0 b) = decide (x = 0) := decide_eq_decide.mpr num_eq_iff
          refine aen_ref h ?_
          rw [h1]
          cases op <;> simp only [isPos, Option.some.injEq, reduceCtorEq] at q3 <;> subst q3
          · rw [e0, c_eqN, hd, Re.of_some] at q4
            cases q4
            cases q5
            refine ⟨_, rfl, ?_⟩
            by_cases hx : x = 0
            · subst hx
              exact aok_num.mpr ⟨0, b, rfl, by rw [bits_zero]; omega, h4, h5, fun h => by cases h⟩
            · rw [decide_eq_false hx]
              exact aok_num.mpr ⟨x, b, rfl, h3, h4, h5, fun _ => hx⟩
          · rw [e0, c_neN, hd, Re.of_some] at q4
            cases q4
            cases q5
            refine ⟨_, rfl, ?_⟩
            by_cases hx : x = 0
            · subst hx
              exact aok_num.mpr ⟨0, b, rfl, by rw [bits_zero]; omega, h4, h5, fun h => by cases h⟩
            · rw [decide_eq_false hx]
              exact aok_num.mpr ⟨x, b, rfl, h3, h4, h5, fun _ => hx⟩
        · exact h
      · exact ⟨_, rfl, h⟩
    · rename_i a
      rw [e_not] at q
      obtain ⟨x, T1, q1, q2⟩ := bind_inv q
      refine ih a (by simp at hn; omega) h (T := T) (T' := T1) ?_
      cases x with
      | l => cases q2
      | v d =>
        cases d <;> try (cases q2; done)
        rename_i k
        cases q2
        rw [q1, Bool.not_not]
    · rename_i a b
      split
      · rename_i hr
        subst hr
        rw [e_and] at q
        obtain ⟨x, T1, q1, q2⟩ := bind_inv q
        cases x with
        | l => cases q2
        | v d =>
          cases d <;> try (cases q2; done)
          rename_i k
          cases k with
          | false => cases q2
          | true =>
            obtain ⟨as1, g1, g2⟩ := ih a (by simp at hn; omega) h q1
            rw [g1]
            exact ih b (by simp at hn; omega) g2 q2
      · exact ⟨_, rfl, h⟩
    · rename_i a b
      split
      · rename_i hr
        subst hr
        rw [e_or] at q
        obtain ⟨x, T1, q1, q2⟩ := bind_inv q
        cases x with
        | l => cases q2
        | v d =>
          cases d <;> try (cases q2; done)
          rename_i k
          cases k with
          | true => cases q2
          | false =>
            obtain ⟨as1, g1, g2⟩ := ih a (by simp at hn; omega) h q1
            rw [g1]
            exact ih b (by simp at hn; omega) g2 q2
      · exact ⟨_, rfl, h⟩
    · exact ⟨_, rfl, h⟩
end Ev
namespace Ev
open PySem
/-! operators of lists, too -/
def aCat (x y : AI) : AI := match x, y with
  | .ex as, .ex bs => .ex (as ++ bs)
  | .ex as, .many b l h => .many ((unis as).uni b) (as.length + l) (as.length + h)
  | .many a l h, .ex bs => .many (a.uni (unis bs)) (l + bs.length) (h + bs.length)
  | .many a l h, .many b l' h' => .many (a.uni b) (l + l') (h + h')
theorem unis_oks {as : List A} {ds : List D} (h : A.oks as ds) : ∀ x, x ∈ ds → (unis as).ok x := fun x m => by
  obtain ⟨a, m2, h2⟩ := oks_mem h m
  exact unis_mem m2 h2
theorem aCat_ok {x y : AI} {ds es : List D} (h1 : x.ok ds) (h2 : y.ok es) : (aCat x y).ok (ds ++ es) := by
  cases x <;> cases y <;> simp only [aCat, AI.ok] at *
  · exact oks_app h1 h2
  · refine ⟨by rw [List.length_append, oks_len h1]; omega, by rw [List.length_append, oks_len h1]; omega, fun x m => ?_⟩
    rcases List.mem_append.mp m with m | m
    · exact uni_l (unis_oks h1 x m)
    · exact uni_r (h2.2.2 x m)
  · refine ⟨by rw [List.length_append, oks_len h2]; omega, by rw [List.length_append, oks_len h2]; omega, fun x m => ?_⟩
    rcases List.mem_append.mp m with m | m
    · exact uni_l (h1.2.2 x m)
    · exact uni_r (unis_oks h2 x m)
  · refine ⟨by rw [List.length_append]; omega, by rw [List.length_append]; omega, fun x m => ?_⟩
    rcases List.mem_append.mp m with m | m
    · exact uni_l (h1.2.2 x m)
    · exact uni_r (h2.2.2 x m)
def AI.mx : AI → Nat
  | .ex as => as.length
  | .many _ _ h => h
theorem aimx_ok {it : AI} {ds : List D} (h : it.ok ds) : ds.length ≤ it.mx := by
  cases it with
  | ex as => exact Nat.le_of_eq (oks_len h)
  | many a l g => exact h.2.1
def aBinW (op : Operator) (x y : AW) : Option AW := if x.a.isL = true then (match op with
    | .Add => if y.a.isL = true then (match x.a.items with
      | some i => (match y.a.items with
        | some j => if i.mx + j.mx ≤ 1000000 then some (.l true (aCat i j).lst) else none
        | none => none)
      | none => none) else none
    | .Mult => (match x.a.items with
      | some (.ex as) => (match y with
        | .v (.int a b _) => if a = b ∧ 0 ≤ a ∧ a ≤ 1000 ∧ as.length ≤ 1000 then some (.l true (.lsx (List.replicate a.toNat as).flatten)) else none
        | _ => none)
      | _ => none)
    | _ => none) else (match x, y with
    | .v a, .v b => (match mapA (fun a => mapA (fun b => aBin op a b) b) a with
      | some r => some (.v r)
      | none => none)
    | _, _ => none)
theorem aBinW_ok {op : Operator} {x y r : AW} {w u : W} (e : aBinW op x y = some r) (h1 : x.ok w) (h2 : y.ok u) : ∃ v, (∀ T, opW op T w u = some v) ∧ r.ok v := by
  unfold aBinW at e
  split at e
  · rename_i hL
    obtain ⟨ds, g1, g2, g3⟩ := aw_isL hL h1
    split at e
    · split at e <;> try (cases e; done)
      rename_i hL2
      obtain ⟨es, g4, g5, g6⟩ := aw_isL hL2 h2
      split at e <;> try (cases e; done)
      rename_i i q1
      split at e <;> try (cases e; done)
      rename_i j q2
      split at e <;> simp only [Option.some.injEq, reduceCtorEq] at e
      rename_i hs
      subst e
      have k1 := items_L q1 g2
      have k2 := items_L q2 g5
      have l1 := aimx_ok k1
      have l2 := aimx_ok k2
      refine ⟨.l true (ds ++ es), fun T => ?_, _, rfl, ailst_ok (aCat_ok k1 k2)⟩
      show addW T w u = _
      have ee : (match w.seq T with | some xs => (match u.seq T with | some ys => if xs.length + ys.length ≤ LL then some (W.l true (xs ++ ys)) else none | none => none) | none => none) = some (W.l true (ds ++ es)) := by
        rw [g1 T, g4 T]
        simp only
        rw [if_pos (by show ds.length + es.length ≤ 1000000; omega)]
      rcases g3 with rfl | ⟨f, rfl⟩ <;> exact ee
    · split at e <;> try (cases e; done)
      rename_i as q1
      split at e <;> try (cases e; done)
      rename_i a b o
      split at e <;> simp only [Option.some.injEq, reduceCtorEq] at e
      rename_i hs
      obtain ⟨rfl, hs⟩ := hs
      subst e
      obtain ⟨d, rfl, h2⟩ := h2
      obtain ⟨j, rfl, h3, h4, _⟩ := aok_int.mp h2
      have ej : j = a := by omega
      subst ej
      have k1 : A.oks as ds := items_L q1 g2
      refine ⟨.l true (List.replicate j.toNat ds).flatten, fun T => ?_, _, rfl, by rw [A.ok]; exact ⟨_, rfl, oks_rep k1 _⟩⟩
      have ee : (if 0 ≤ j ∧ j ≤ 1000 ∧ ds.length ≤ 1000 then some (W.l true (List.replicate j.toNat ds).flatten) else none) = some (W.l true (List.replicate j.toNat ds).flatten) := if_pos ⟨hs.1, hs.2.1, by rw [oks_len k1]; exact hs.2.2⟩
      rcases g3 with rfl | ⟨f, rfl⟩ <;> exact ee
    · cases e
  · split at e <;> try (cases e; done)
    split at e <;> simp only [Option.some.injEq, reduceCtorEq] at e
    rename_i q
    subst e
    obtain ⟨d, rfl, h1⟩ := h1
    obtain ⟨d2, rfl, h2⟩ := h2
    obtain ⟨a1, z, k1, k2, k3⟩ := mapA_ok q h1
    obtain ⟨b1, z2, k4, k5, k6⟩ := mapA_ok k2 h2
    obtain ⟨v, k7, k8⟩ := aBin_ok k5 k1 k4
    exact ⟨.v v, k7, _, rfl, k3 _ (k6 _ k8)⟩
def aCmpW (op : CmpOp) (x y : AW) : Option (Option Bool) := match x, y with
  | .v a, .v b => (match mapA (fun a => mapA (fun b => aCmp op a b) b) a with
    | some (.bl r) => some r
    | _ => none)
  | _, _ => none
theorem aCmpW_ok {op : CmpOp} {x y : AW} {r : Option Bool} {w u : W} (e : aCmpW op x y = some r) (h1 : x.ok w) (h2 : y.ok u) : ∃ k, (∀ T, cmpW op T w u = some k) ∧ (r = none ∨ r = some k) := by
  unfold aCmpW at e
  split at e <;> try (cases e; done)
  split at e <;> simp only [Option.some.injEq, reduceCtorEq] at e
  rename_i q
  subst e
  obtain ⟨d, rfl, h1⟩ := h1
  obtain ⟨d2, rfl, h2⟩ := h2
  obtain ⟨a1, z, k1, k2, k3⟩ := mapA_ok q h1
  obtain ⟨b1, z2, k4, k5, k6⟩ := mapA_ok k2 h2
  obtain ⟨v, k7, k8⟩ := aCmp_ok k5 k1 k4
  obtain ⟨_, k9, k10⟩ := aok_bl.mp (k3 _ (k6 _ k8))
  cases k9
  exact ⟨v, k7, k10⟩
def negN (a : A) : Option A := match a.num? with
  | some (k, lo, hi, nz) => some (.num k lo hi nz)
  | none => none
/-- the same number with the other sign, spelt out -/
def negP : List E → AEn → Option A
  | [.neg (.ix (.var i) (.cst (.int 0))), .ix (.var j) (.cst (.int 1))], η => if i = j then (match η.get i with
    | .val a => mapA negN a
    | _ => none) else none
  | _, _ => none
theorem negP_ok {c : Call} {es : List E} {as : AEn} {η : En} {a : A} {T : Sto} (e : negP es as = some a) (h : as.ok η) : ∃ d, evE c (.tup es) η T = .ok (.v d) T ∧ a.ok d := by
  unfold negP at e
  split at e <;> try (cases e; done)
  split at e <;> try (cases e; done)
  rename_i i j hij
  subst hij
  have hg := aen_get (i := i) h
  split at e <;> try (cases e; done)
  rename_i q
  rw [q] at hg
  obtain ⟨d, h1, h2⟩ := hg
  obtain ⟨a1, z, k1, k2, k3⟩ := mapA_ok e h2
  unfold negN at k2
  split at k2 <;> simp only [Option.some.injEq, reduceCtorEq] at k2
  rename_i q2
  subst k2
  obtain ⟨x, b, rfl, g1, g2, g3, g4⟩ := aok_num.mp (num?_ok q2 k1)
  refine ⟨N (-x) b, ?_, k3 _ (aok_num.mpr ⟨-x, b, rfl, by rw [bits_neg]; exact g1, g2, g3, fun h => by have := g4 h; omega⟩)⟩
  simp only [e_tup, d_n, d_c, e_neg, e_ix, e_var, e_cst, h1, Re.bind_ok, x_pr0, x_pr1, Re.of_some, W.i?_int, W.st_v, N_neg]
/-! a row of items that may be left out -/
abbrev IR := Option A × Bool
def IR.ok (r : IR) (o : Option D) : Prop := match o with
  | some d => ∃ a, r.1 = some a ∧ a.ok d
  | none => r.1 = none ∨ r.2 = false
def combR (r s : IR) : IR := match r.1, s.1 with
  | some a, some b => (some (a.uni b), r.2 && s.2)
  | none, none => (none, r.2 && s.2)
  | some a, none => (some a, false)
  | none, some b => (some b, false)
theorem combR_l {r s : IR} {o : Option D} (h : r.ok o) : (combR r s).ok o := by
  obtain ⟨r1, r2⟩ := r
  obtain ⟨s1, s2⟩ := s
  unfold combR
  cases o <;> cases r1 <;> cases s1 <;> simp_all [IR.ok]
  exact uni_l h
theorem combR_r {r s : IR} {o : Option D} (h : s.ok o) : (combR r s).ok o := by
  obtain ⟨r1, r2⟩ := r
  obtain ⟨s1, s2⟩ := s
  unfold combR
  cases o <;> cases r1 <;> cases s1 <;> simp_all [IR.ok]
  exact uni_r h
def altR (f : A → Option IR) : List A → Option IR
  | [] => none
  | [a] => f a
  | a :: as => match f a with
    | some r => (match altR f as with
      | some s => some (combR r s)
      | none => none)
    | none => none
theorem altR_ok {f : A → Option IR} {as : List A} {a : A} {r : IR} (e : altR f as = some r) (m : a ∈ as) : ∃ s, f a = some s ∧ ∀ o, s.ok o → r.ok o := by
  induction as generalizing r with
  | nil => cases m
  | cons b as ih =>
    cases as with
    | nil =>
      rw [List.mem_singleton] at m
      subst m
      exact ⟨r, e, fun o h => h⟩
    | cons c cs =>
      rw [altR] at e
      · split at e <;> try (cases e; done)
        rename_i s q
        split at e <;> simp only [Option.some.injEq, reduceCtorEq] at e
        rename_i t q2
        subst e
        cases m with
        | head => exact ⟨s, q, fun o h => combR_l h⟩
        | tail _ m =>
          obtain ⟨u, h1, h2⟩ := ih q2 m
          exact ⟨u, h1, fun o h => combR_r (h2 o h)⟩
      · simp
def rowR (f : A → Option IR) : List A → Option (List IR)
  | [] => some []
  | a :: as => match altR f a.alts with
    | some r => (match rowR f as with
      | some rs => some (r :: rs)
      | none => none)
    | none => none
def IRs.ok : List IR → List D → Prop
  | [], ys => ys = []
  | r :: rs, ys => ∃ o zs, r.ok o ∧ IRs.ok rs zs ∧ ys = (match o with | some d => d :: zs | none => zs)
theorem irs_len {rs : List IR} {ys : List D} (h : IRs.ok rs ys) : ys.length ≤ rs.length := by
  induction rs generalizing ys with
  | nil => rw [IRs.ok] at h; rw [h]; simp
  | cons r rs ih =>
    obtain ⟨o, zs, h1, h2, rfl⟩ := h
    have := ih h2
    cases o <;> simp only [List.length_cons] <;> omega
theorem irs_mem {rs : List IR} {ys : List D} {x : D} (h : IRs.ok rs ys) (m : x ∈ ys) : ∃ a, a ∈ rs.filterMap (·.1) ∧ a.ok x := by
  induction rs generalizing ys with
  | nil => rw [IRs.ok] at h; rw [h] at m; cases m
  | cons r rs ih =>
    obtain ⟨o, zs, h1, h2, rfl⟩ := h
    cases o with
    | none =>
      obtain ⟨a, m2, h3⟩ := ih h2 m
      refine ⟨a, ?_, h3⟩
      rw [List.mem_filterMap] at m2 ⊢
      obtain ⟨b, m3, h4⟩ := m2
      exact ⟨b, List.mem_cons_of_mem _ m3, h4⟩
    | some d =>
      obtain ⟨a, h4, h5⟩ := h1
      cases m with
      | head => exact ⟨a, List.mem_filterMap.mpr ⟨r, List.mem_cons_self, h4⟩, h5⟩
      | tail _ m =>
        obtain ⟨a, m2, h3⟩ := ih h2 m
        refine ⟨a, ?_, h3⟩
        rw [List.mem_filterMap] at m2 ⊢
        obtain ⟨b, m3, h4⟩ := m2
        exact ⟨b, List.mem_cons_of_mem _ m3, h4⟩
def rowA (rs : List IR) : A := if rs.all (fun r => r.2) = true then .lsx (rs.filterMap (·.1)) else .lst (unis (rs.filterMap (·.1))) 0 rs.length
theorem rowA_ok {rs : List IR} {ys : List D} (h : IRs.ok rs ys) : (rowA rs).ok (.lst ys) := by
  unfold rowA
  split
  · rename_i hs
    rw [A.ok]
    refine ⟨ys, rfl, ?_⟩
    induction rs generalizing ys with
    | nil => rw [IRs.ok] at h; rw [h]; exact oks_nil
    | cons r rs ih =>
      obtain ⟨o, zs, h1, h2, rfl⟩ := h
      rw [List.all_cons, Bool.and_eq_true] at hs
      have := ih h2 hs.2
      cases o with
      | none =>
        rcases h1 with h1 | h1
        · rw [List.filterMap_cons, h1]; exact this
        · rw [h1] at hs; cases hs.1
      | some d =>
        obtain ⟨a, h1, h3⟩ := h1
        rw [List.filterMap_cons, h1]
        exact oks_cons h3 this
  · rw [A.ok]
    refine ⟨ys, rfl, by omega, ?_, ?_⟩
    · exact irs_len h
    · intro x m
      obtain ⟨a, m2, h2⟩ := irs_mem h m
      exact unis_mem m2 h2
def manyA (r : IR) (lo hi : Nat) : A := match r.1 with
  | some a => .lst a (if r.2 = true then lo else 0) hi
  | none => .lsx []
/-- one item of a comprehension -/
def itemR (fe : AEn → Option AW) (fc : AEn → Option (Option (Option Bool × Option AEn))) (η : AEn) : Option IR := match fc η with
  | none => none
  | some none => (match fe η with
    | some w => (match w.st with
      | some a => some (some a, true)
      | none => none)
    | none => none)
  | some (some (some false, _)) => some (none, true)
  | some (some (_, none)) => some (none, true)
  | some (some (b, some η1)) => (match fe η1 with
    | some w => (match w.st with
      | some a => some (some a, decide (b = some true))
      | none => none)
    | none => none)
def lcF1 (fe : AEn → Option AW) (fc : AEn → Option (Option (Option Bool × Option AEn))) (tg : Tg) (η : AEn) (a : A) : Option IR := match aAsg tg a η with
  | some η1 => itemR fe fc η1
  | none => none
def lcA (f : A → Option IR) (it : AI) : Option AW := if it.mx ≤ 1000000 then (match it with
  | .ex as => (match rowR f as with
    | some rs => some (.l true (rowA rs))
    | none => none)
  | .many a lo hi => (match altR f a.alts with
    | some r => some (.l true (manyA r lo hi))
    | none => none)) else none
def permA (perm : List Nat) (as : List A) : Option (List A) := match perm with
  | [] => some []
  | j :: js => match as[j]? with
    | some a => (match permA js as with
      | some bs => some (a :: bs)
      | none => none)
    | none => none
theorem permA_ok {perm : List Nat} {as bs : List A} {ds : List D} (e : permA perm as = some bs) (h : A.oks as ds) : ∃ es, permD perm ds = some es ∧ A.oks bs es := by
  induction perm generalizing bs with
  | nil =>
    simp only [permA, Option.some.injEq] at e
    subst e
    exact ⟨[], rfl, oks_nil⟩
  | cons j js ih =>
    rw [permA] at e
    split at e <;> try (cases e; done)
    rename_i a q
    split at e <;> simp only [Option.some.injEq, reduceCtorEq] at e
    rename_i cs q2
    subst e
    obtain ⟨d, h1, h2⟩ := oks_get h q
    obtain ⟨es, h3, h4⟩ := ih q2
    refine ⟨d :: es, ?_, oks_cons h2 h4⟩
    unfold permD at h3 ⊢
    rw [List.mapM_cons, h1, h3]
    rfl
/-- ints from a on -/
def cntA : Nat → Int → List A
  | 0, _ => []
  | n + 1, a => .int a a (decide (a % 2 = 1)) :: cntA n (a + 1)
theorem cntA_ok {n : Nat} {a : Int} : A.oks (cntA n a) ((List.range n).map fun k => .int (a + (k : Nat))) := by
  induction n generalizing a with
  | zero => exact oks_nil
  | succ n ih =>
    rw [cntA, List.range_succ_eq_map, List.map_cons, List.map_map]
    refine oks_cons (aok_int.mpr ⟨_, rfl, by simp, by simp, fun h => by simpa using of_decide_eq_true h⟩) ?_
    have e : ((fun k : Nat => D.int (a + (k : Nat))) ∘ Nat.succ) = fun k : Nat => D.int (a + 1 + (k : Nat)) := by
      funext k
      simp only [Function.comp]
      congr 1
      omega
    rw [e]
    exact ih
def rngA (a b c d : Int) : Option AI := if -4611686018427387904 ≤ a ∧ b < 4611686018427387904 ∧ -4611686018427387904 ≤ c ∧ d < 4611686018427387904 then
    (if a = b ∧ c = d ∧ c - a ≤ 1000 then some (.ex (cntA (c - a).toNat a)) else some (.many (.int a (d - 1) false) (c - b).toNat (d - a).toNat)) else none
theorem rngA_ok {a b c d i j : Int} {it : AI} (e : rngA a b c d = some it) (h1 : a ≤ i) (h2 : i ≤ b) (h3 : c ≤ j) (h4 : j ≤ d) : small62 i = true ∧ small62 j = true ∧ it.ok (rngL i j) := by
  unfold rngA at e
  have r62 : (2 : Int) ^ 62 = 4611686018427387904 := by decide
  split at e <;> try (cases e; done)
  rename_i q
  refine ⟨sm62 (by omega) (by omega), sm62 (by omega) (by omega), ?_⟩
  split at e <;> simp only [Option.some.injEq] at e <;> subst e
  · rename_i q2
    have e1 : i = a := by omega
    have e2 : j = c := by omega
    subst e1 e2
    exact cntA_ok
  · have hl : (rngL i j).length = (j - i).toNat := by unfold rngL; simp
    refine ⟨by omega, by omega, fun x m => ?_⟩
    obtain ⟨k, rfl, m1, m2⟩ := rng_mem m
    exact aok_int.mpr ⟨_, rfl, by omega, by omega, fun h => by cases h⟩
def zipA : List A → List A → List A
  | a :: as, b :: bs => .tup [a, b] :: zipA as bs
  | _, _ => []
theorem zipA_ok {as bs : List A} {ds es : List D} (h1 : A.oks as ds) (h2 : A.oks bs es) : A.oks (zipA as bs) (zipL ds es) := by
  induction as generalizing bs ds es with
  | nil => rw [A.oks] at h1; rw [h1]; cases bs <;> exact oks_nil
  | cons a as ih =>
    rw [A.oks] at h1
    obtain ⟨x, xs, rfl, g1, g2⟩ := h1
    cases bs with
    | nil => rw [A.oks] at h2; rw [h2]; exact oks_nil
    | cons b bs =>
      rw [A.oks] at h2
      obtain ⟨y, ys, rfl, g3, g4⟩ := h2
      exact oks_cons (by rw [A.ok]; exact ⟨_, rfl, oks_cons g1 (oks_cons g3 oks_nil)⟩) (ih g2 g4)
def AI.el : AI → A
  | .ex as => unis as
  | .many a _ _ => a
def AI.mn : AI → Nat
  | .ex as => as.length
  | .many _ l _ => l
theorem el_ok {it : AI} {ds : List D} (h : it.ok ds) : ∀ x, x ∈ ds → it.el.ok x := by
  cases it with
  | ex as => exact unis_oks h
  | many a l g => exact h.2.2
theorem aimn_ok {it : AI} {ds : List D} (h : it.ok ds) : it.mn ≤ ds.length := by
  cases it with
  | ex as => exact Nat.le_of_eq (oks_len h).symm
  | many a l g => exact h.1
def aZip : AI → AI → AI
  | .ex as, .ex bs => .ex (zipA as bs)
  | x, y => .many (.tup [x.el, y.el]) (mnN x.mn y.mn) (mnN x.mx y.mx)
theorem aZip_ok {x y : AI} {ds es : List D} (h1 : x.ok ds) (h2 : y.ok es) : (aZip x y).ok (zipL ds es) := by
  have g : (AI.many (.tup [x.el, y.el]) (mnN x.mn y.mn) (mnN x.mx y.mx)).ok (zipL ds es) := by
    have l : (zipL ds es).length = min ds.length es.length := by unfold zipL; rw [List.length_map, List.length_zip]
    have a1 := aimx_ok h1
    have a2 := aimx_ok h2
    have a3 := aimn_ok h1
    have a4 := aimn_ok h2
    refine ⟨?_, ?_, fun z m => ?_⟩
    · rw [l]; unfold mnN; split <;> omega
    · rw [l]; unfold mnN; split <;> omega
    · unfold zipL at m
      obtain ⟨p, m', rfl⟩ := List.mem_map.mp m
      obtain ⟨p1, p2⟩ := p
      have := List.of_mem_zip m'
      rw [A.ok]
      exact ⟨_, rfl, oks_cons (el_ok h1 _ this.1) (oks_cons (el_ok h2 _ this.2) oks_nil)⟩
  cases x <;> cases y <;> first | exact zipA_ok h1 h2 | exact g
def enA : Nat → List A → List A
  | _, [] => []
  | i, a :: as => .tup [.int i i (decide ((i : Int) % 2 = 1)), a] :: enA (i + 1) as
theorem enA_ok {as : List A} {ds : List D} (h : A.oks as ds) (i : Nat) : A.oks (enA i as) ((ds.zipIdx i).map fun p => .tup [.int (p.2 : Nat), p.1]) := by
  induction as generalizing ds i with
  | nil => rw [A.oks] at h; rw [h]; exact oks_nil
  | cons a as ih =>
    rw [A.oks] at h
    obtain ⟨x, xs, rfl, g1, g2⟩ := h
    rw [List.zipIdx_cons, List.map_cons]
    exact oks_cons (by rw [A.ok]; exact ⟨_, rfl, oks_cons (aok_int.mpr ⟨_, rfl, by omega, by omega, fun h => of_decide_eq_true h⟩) (oks_cons g1 oks_nil)⟩) (ih g2 _)
def aEnum : AI → AI
  | .ex as => .ex (enA 0 as)
  | .many a l h => .many (.tup [.int 0 h false, a]) l h
theorem aEnum_ok {x : AI} {ds : List D} (h : x.ok ds) : (aEnum x).ok (enumL ds) := by
  cases x with
  | ex as => exact enA_ok h 0
  | many a l g =>
    have e : (enumL ds).length = ds.length := by unfold enumL; rw [List.length_map, List.length_zipIdx]
    refine ⟨by rw [e]; exact h.1, by rw [e]; exact h.2.1, fun z m => ?_⟩
    unfold enumL at m
    obtain ⟨p, m', rfl⟩ := List.mem_map.mp m
    obtain ⟨p1, p2⟩ := p
    have hl := h.2.1
    have := List.mem_zipIdx m'
    obtain ⟨q1, q2, q3⟩ := this
    rw [A.ok]
    exact ⟨_, rfl, oks_cons (aok_int.mpr ⟨_, rfl, by omega, by omega, fun h => by cases h⟩) (oks_cons (h.2.2 _ (by rw [q3]; exact List.getElem_mem _)) oks_nil)⟩
def aRev : AI → AI
  | .ex as => .ex as.reverse
  | .many a l h => .many a l h
theorem aRev_ok {x : AI} {ds : List D} (h : x.ok ds) : (aRev x).ok ds.reverse := by
  cases x with
  | ex as => exact oks_rev h
  | many a l g => exact ⟨by rw [List.length_reverse]; exact h.1, by rw [List.length_reverse]; exact h.2.1, fun x m => h.2.2 x (List.mem_reverse.mp m)⟩
end Ev
namespace Ev
open PySem
/-- twice something and one more -/
def oddP : Operator → E → E → Bool
  | .Add, .bin .Mult (.cst (.int 2)) _, .cst (.int 1) => true
  | _, _, _ => false
def mkOdd : Bool → AW → AW
  | true, .v (.int a b _) => .v (.int a b true)
  | _, w => w
section
variable (k : Nat → List A → Option A)
mutual
def aE : E → AEn → Option AW
  | .var i, η => match η.get i with
    | .val a => some (.v a)
    | .own a => some (.l false a)
    | _ => none
  | .cst d, _ => match ofD d with
    | some a => some (.v a)
    | none => none
  | .gint _ i, _ => some (.v (.int i i (decide (i % 2 = 1))))
  | .gfn _, _ => none
  | .tup es, η => match negP es η with
    | some a => some (.v a)
    | none => (match aDs es η with
      | some as => some (.v (.tup as))
      | none => none)
  | .lst es, η => match aDs es η with
    | some as => some (.l true (.lsx as))
    | none => none
  | .bin op a b, η => match aE a η with
    | some x => (match aE b η with
      | some y => (match aBinW op x y with
        | some r => some (mkOdd (oddP op a b) r)
        | none => none)
      | none => none)
    | none => none
  | .neg a, η => match aE a η with
    | some (.v x) => (match mapA (fun x => match x with
        | .int a b o => some (.int (-b) (-a) o)
        | _ => none) x with
      | some r => some (.v r)
      | none => none)
    | _ => none
  | .cmp op a b, η => match aE a η with
    | some x => (match aE b η with
      | some y => (match aCmpW op x y with
        | some r => some (.v (.bl r))
        | none => none)
      | none => none)
    | none => none
  | .chain op op2 a b d, η => match aE a η with
    | some x => (match aE b η with
      | some y => (match aCmpW op x y with
        | some (some false) => some (.v (.bl (some false)))
        | some r => (match aE d η with
          | some z => (match aCmpW op2 y z with
            | some r2 => some (.v (.bl (if r = some true ∨ r2 = some false then r2 else none)))
            | none => none)
          | none => none)
        | none => none)
      | none => none)
    | none => none
  | .and a b, η => match aE a η with
    | some x => (match bOf x with
      | some (some false) => some (.v (.bl (some false)))
      | some r => (match rf a true η with
        | none => some (.v (.bl (some false)))
        | some η1 => (match aE b η1 with
          | some y => (match bOf y with
            | some r2 => some (.v (.bl (if r = some true ∨ r2 = some false then r2 else none)))
            | none => none)
          | none => none))
      | none => none)
    | none => none
  | .or a b, η => match aE a η with
    | some x => (match bOf x with
      | some (some true) => some (.v (.bl (some true)))
      | some r => (match rf a false η with
        | none => some (.v (.bl (some true)))
        | some η1 => (match aE b η1 with
          | some y => (match bOf y with
            | some r2 => some (.v (.bl (if r = some false ∨ r2 = some true then r2 else none)))
            | none => none)
          | none => none))
      | none => none)
    | none => none
  | .not a, η => match aE a η with
    | some x => (match bOf x with
      | some r => some (.v (.bl (flipB false r)))
      | none => none)
    | none => none
  | .ife t a b, η => match aE t η with
    | some x => (match bOf x with
      | some (some true) => aE a η
      | some (some false) => aE b η
      | some none => (match rf t true η with
        | none => (match rf t false η with
          | none => none
          | some η2 => aE b η2)
        | some η1 => (match rf t false η with
          | none => aE a η1
          | some η2 => (match aE a η1 with
            | some y => (match aE b η2 with
              | some z => awUni y z
              | none => none)
            | none => none)))
      | none => none)
    | none => none
  | .ix a i, η => match aE a η with
    | some x => (match aE i η with
      | some (.v y) => (match aIx x y with
        | some r => some (.v r)
        | none => none)
      | _ => none)
    | none => none
  | .sl a lo hi, η => match aE a η with
    | some x => (match aO lo η with
      | some l => (match aO hi η with
        | some h => aSl x l h
        | none => none)
      | none => none)
    | none => none
  | .call f es, η => match aDs es η with
    | some as => (match k f as with
      | some r => some (.v r)
      | none => none)
    | none => none
  | .callK f _ perm es, η => match aDs es η with
    | some as => (match permA perm as with
      | some bs => (match k f bs with
        | some r => some (.v r)
        | none => none)
      | none => none)
    | none => none
  | .b1 b a, η => match aE a η with
    | some x => aB1 b x
    | none => none
  | .b2 b a1 a2, η => match aE a1 η with
    | some (.v x) => (match aE a2 η with
      | some (.v y) => (match aB2 b x y with
        | some r => some (.v r)
        | none => none)
      | _ => none)
    | _ => none
  | .isi a t, η => match aE a η with
    | some x => (match isiA t x.a with
      | some b => some (.v (.bl (some b)))
      | none => none)
    | none => none
  | .bitlen a, η => match aE a η with
    | some (.v x) => (match mapA (fun x => match x with
        | .int a b _ => some (.int 0 (bitsR a b : Nat) false)
        | _ => none) x with
      | some r => some (.v r)
      | none => none)
    | _ => none
  | .lc elt tg it cn vs, η => match aI it η with
    | some it => lcA (lcF1 (fun η => aE elt η) (fun η => aCo cn η) tg (aWipe η vs)) it
    | none => none
  | _, _ => none
def aO : Option E → AEn → Option (Option A)
  | none, _ => some none
  | some e, η => match aE e η with
    | some (.v (.int a b o)) => some (some (.int a b o))
    | _ => none
def aCo : Option E → AEn → Option (Option (Option Bool × Option AEn))
  | none, _ => some none
  | some e, η => match aE e η with
    | some x => (match bOf x with
      | some b => some (some (b, rf e true η))
      | none => none)
    | none => none
def aDs : List E → AEn → Option (List A)
  | [], _ => some []
  | e :: es, η => match aE e η with
    | some x => (match x.st with
      | some a => (match aDs es η with
        | some as => some (a :: as)
        | none => none)
      | none => none)
    | none => none
def aI : E → AEn → Option AI
  | .rng none hi, η => match aE hi η with
    | some (.v (.int c d _)) => rngA 0 0 c d
    | _ => none
  | .rng (some lo) hi, η => match aE lo η with
    | some (.v (.int a b _)) => (match aE hi η with
      | some (.v (.int c d _)) => rngA a b c d
      | _ => none)
    | _ => none
  | .enum a, η => match aE a η with
    | some x => (match x.st with
      | some y => if y.isL = true then (match y.items with
        | some it => some (aEnum it)
        | none => none) else none
      | none => none)
    | none => none
  | .zip es, η => match aDs es η with
    | some [x, y] => if x.isL = true ∧ y.isL = true then (match x.items with
        | some i => (match y.items with
          | some j => some (aZip i j)
          | none => none)
        | none => none) else none
    | _ => none
  | .rvd a, η => match aE a η with
    | some x => (match x.st with
      | some y => (match y.items with
        | some it => some (aRev it)
        | none => none)
      | none => none)
    | none => none
  | .sq a, η => match aE a η with
    | some x => (match x.st with
      | some y => y.items
      | none => none)
    | none => none
  | _, _ => none
end
end
/-! it holds -/
theorem bind_inv2 {α β : Type} {r : Re α} {f : α → Sto → Re β} {b : β} {T : Sto} (h : r.bind f = .ok b T) : ∃ a T1, r = .ok a T1 ∧ f a T1 = .ok b T := bind_inv h
theorem of_inv {α : Type} {o : Option α} {a : α} {T T' : Sto} (h : Re.of o T = .ok a T') : o = some a := by
  cases o with
  | none => cases h
  | some b => cases h; rfl
theorem oddP_ok {c : Call} {op : Operator} {a b : E} {η : En} {T T' : Sto} {w : W} (hp : oddP op a b = true) (h : evE c (.bin op a b) η T = .ok w T') : ∀ z : Int, w = .v (.int z) → z % 2 = 1 := by
  unfold oddP at hp
  split at hp <;> try (cases hp; done)
  rename_i e
  rw [e_bin, e_bin, e_cst, Re.bind_ok] at h
  obtain ⟨x, T1, h1, h2⟩ := bind_inv h
  obtain ⟨y, T2, h3, h4⟩ := bind_inv h1
  have h5 := of_inv h4
  have h6 : ∃ i : Int, x = .v (.int (2 * i)) := by
    cases y with
    | l f xs => change (none : Option W) = some x at h5; cases h5
    | v d =>
      cases d with
      | int i =>
        change (if bits 2 + bits i ≤ BB then some (W.v (.int (2 * i))) else none) = some x at h5
        split at h5
        · cases h5; exact ⟨i, rfl⟩
        · cases h5
      | _ => change (none : Option W) = some x at h5; cases h5
  obtain ⟨i, rfl⟩ := h6
  rw [e_cst, Re.bind_ok, i_add, Re.of_some] at h2
  intro z hz
  subst hz
  cases h2
  omega
theorem mkOdd_ok {o : Bool} {aw : AW} {w : W} (h : o = true → ∀ z : Int, w = .v (.int z) → z % 2 = 1) (hw : aw.ok w) : (mkOdd o aw).ok w := by
  unfold mkOdd
  split
  · obtain ⟨d, rfl, hd⟩ := hw
    obtain ⟨i, rfl, h1, h2, h3⟩ := aok_int.mp hd
    exact ⟨_, rfl, aok_int.mpr ⟨i, rfl, h1, h2, fun _ => h rfl i rfl⟩⟩
  · exact hw
section
variable {c : Call} {k : Nat → List A → Option A} {I : Sto → Prop}
theorem of_wp {α : Type} {a : α} {T : Sto} {o : Option α} {Q : α → Sto → Prop} (e : o = some a) (h : Q a T) : (Re.of o T).wp Q := by
  rw [e, Re.of_some]
  exact wp_ok.mpr h
theorem calm_wp {α : Type} {r : Re α} {Q : α → Sto → Prop} (h : r.wp Q) : r.calm.wp Q := by
  obtain ⟨a, T, rfl, h2⟩ := wp_ex h
  rw [Re.calm_ok]
  exact wp_ok.mpr h2
/-- a comprehension over known items -/
theorem row_ok {tg : Tg} {η : En} {g : En → Sto → Re (Option D)} {f : A → Option IR} (hf : ∀ a r d T, f a = some r → a.ok d → I T → ∃ η1, asgT tg d η = some η1 ∧ (g η1 T).wp fun o T' => r.ok o ∧ I T') :
    ∀ {as : List A} {rs : List IR} {ds : List D} {T : Sto}, rowR f as = some rs → A.oks as ds → I T → (lcL tg η g ds T).wp fun ys T' => IRs.ok rs ys ∧ I T' := by
  intro as
  induction as with
  | nil =>
    intro rs ds T e h hT
    simp only [rowR, Option.some.injEq] at e
    rw [A.oks] at h
    subst e h
    rw [lcL, wp_ok]
    exact ⟨rfl, hT⟩
  | cons a as ih =>
    intro rs ds T e h hT
    rw [rowR] at e
    split at e <;> try (cases e; done)
    rename_i r q
    split at e <;> simp only [Option.some.injEq, reduceCtorEq] at e
    rename_i rs' q2
    subst e
    rw [A.oks] at h
    obtain ⟨x, xs, rfl, h1, h2⟩ := h
    have h3 := alts_ok h1
    rw [oko_mem] at h3
    obtain ⟨a1, m, h4⟩ := h3
    obtain ⟨s, q3, q4⟩ := altR_ok q m
    obtain ⟨η1, e1, g1⟩ := hf _ _ _ T q3 h4 hT
    rw [lcL, e1]
    simp only
    rw [wp_bind]
    refine wp_step (calm_wp g1) fun o T1 ⟨k1, k2⟩ => ?_
    rw [wp_bind]
    refine wp_step (ih q2 h2 k2) fun ys T2 ⟨k3, k4⟩ => ?_
    cases o with
    | none => rw [wp_ok]; exact ⟨⟨none, ys, q4 _ k1, k3, rfl⟩, k4⟩
    | some d => rw [wp_ok]; exact ⟨⟨some d, ys, q4 _ k1, k3, rfl⟩, k4⟩
theorem many_ok {tg : Tg} {η : En} {g : En → Sto → Re (Option D)} {f : A → Option IR} (hf : ∀ a r d T, f a = some r → a.ok d → I T → ∃ η1, asgT tg d η = some η1 ∧ (g η1 T).wp fun o T' => r.ok o ∧ I T') {a : A} {r : IR} (e : altR f a.alts = some r) :
    ∀ {ds : List D} {T : Sto}, (∀ x, x ∈ ds → a.ok x) → I T → (lcL tg η g ds T).wp fun ys T' => ((∀ y, y ∈ ys → ∃ b, r.1 = some b ∧ b.ok y) ∧ ys.length ≤ ds.length ∧ (r.2 = true → (∃ b, r.1 = some b) → ys.length = ds.length)) ∧ I T' := by
  intro ds
  induction ds with
  | nil =>
    intro T h hT
    rw [lcL, wp_ok]
    exact ⟨⟨fun y m => (by cases m), by simp, by simp⟩, hT⟩
  | cons d ds ih =>
    intro T h hT
    have h3 := alts_ok (h d List.mem_cons_self)
    rw [oko_mem] at h3
    obtain ⟨a1, m, h4⟩ := h3
    obtain ⟨s, q3, q4⟩ := altR_ok e m
    obtain ⟨η1, e1, g1⟩ := hf _ _ _ T q3 h4 hT
    rw [lcL, e1]
    simp only
    rw [wp_bind]
    refine wp_step (calm_wp g1) fun o T1 ⟨k1, k2⟩ => ?_
    rw [wp_bind]
    refine wp_step (ih (fun x m => h x (List.mem_cons_of_mem _ m)) k2) fun ys T2 ⟨⟨k3, k5, k6⟩, k4⟩ => ?_
    have k7 := q4 _ k1
    cases o with
    | none =>
      rw [wp_ok]
      refine ⟨⟨k3, by rw [List.length_cons]; omega, fun hr hb => ?_⟩, k4⟩
      rcases k7 with k7 | k7
      · obtain ⟨b, hb⟩ := hb
        rw [k7] at hb
        cases hb
      · rw [k7] at hr
        cases hr
    | some x =>
      rw [wp_ok]
      refine ⟨⟨fun y m => ?_, by rw [List.length_cons, List.length_cons]; omega, fun hr hb => by rw [List.length_cons, List.length_cons, k6 hr hb]⟩, k4⟩
      cases m with
      | head => exact k7
      | tail _ m => exact k3 y m
theorem manyA_ok {r : IR} {lo hi n : Nat} {ys : List D} (h1 : lo ≤ n) (h2 : n ≤ hi) (h : (∀ y, y ∈ ys → ∃ b, r.1 = some b ∧ b.ok y) ∧ ys.length ≤ n ∧ (r.2 = true → (∃ b, r.1 = some b) → ys.length = n)) : (manyA r lo hi).ok (.lst ys) := by
  obtain ⟨h3, h4, h5⟩ := h
  unfold manyA
  split
  · rename_i a q
    rw [A.ok]
    refine ⟨ys, rfl, ?_, by omega, fun x m => ?_⟩
    · split
      · rename_i hr
        have := h5 hr ⟨a, q⟩
        omega
      · omega
    · obtain ⟨b, q2, h6⟩ := h3 x m
      rw [q] at q2
      cases q2
      exact h6
  · rename_i q
    rw [A.ok]
    cases ys with
    | nil => exact ⟨[], rfl, oks_nil⟩
    | cons y ys =>
      obtain ⟨b, q2, _⟩ := h3 y List.mem_cons_self
      rw [q] at q2
      cases q2
variable (hk : ∀ f as a ds T, k f as = some a → A.oks as ds → I T → (c f ds T).wp fun d T' => a.ok d ∧ I T')
theorem bl_aw {b : Option Bool} {r : Bool} (h : b = none ∨ b = some r) : (AW.v (.bl b)).ok (.v (.bl r)) := ⟨_, rfl, aok_bl.mpr ⟨_, rfl, h⟩⟩
theorem and_b {r r2 : Option Bool} {k k2 : Bool} (h1 : r = none ∨ r = some k) (h2 : r2 = none ∨ r2 = some k2) : (if r = some true ∨ r2 = some false then r2 else none) = none ∨ (if r = some true ∨ r2 = some false then r2 else none) = some (k && k2) := by
  rcases h1 with rfl | rfl <;> rcases h2 with rfl | rfl <;> cases k <;> cases k2 <;> simp
theorem or_b {r r2 : Option Bool} {k k2 : Bool} (h1 : r = none ∨ r = some k) (h2 : r2 = none ∨ r2 = some k2) : (if r = some false ∨ r2 = some true then r2 else none) = none ∨ (if r = some false ∨ r2 = some true then r2 else none) = some (k || k2) := by
  rcases h1 with rfl | rfl <;> rcases h2 with rfl | rfl <;> cases k <;> cases k2 <;> simp
theorem int_aw {x : AW} {w : W} {a b : Int} {o : Bool} (e : x = .v (.int a b o)) (h : x.ok w) : ∃ i : Int, w = .v (.int i) ∧ a ≤ i ∧ i ≤ b ∧ (o = true → i % 2 = 1) := by
  subst e
  obtain ⟨d, rfl, h⟩ := h
  obtain ⟨i, rfl, h2⟩ := aok_int.mp h
  exact ⟨i, rfl, h2⟩
/-- what a comprehension's condition tells -/
def coOk (c : Call) (o : Option E) (η : En) (T : Sto) (I : Sto → Prop) (r : Option (Option (Option Bool × Option AEn))) : Prop := match o, r with
  | _, none => True
  | none, some none => True
  | none, some (some _) => False
  | some _, some none => False
  | some cn, some (some (b, o1)) => ∃ v T1, evE c cn η T = .ok (.v (.bl v)) T1 ∧ (b = none ∨ b = some v) ∧ I T1 ∧ (v = true → ∃ as', o1 = some as' ∧ as'.ok η)
include hk in
mutual
theorem aE_ok : ∀ (e : E) {as : AEn} {η : En} {aw : AW} {T : Sto}, aE k e as = some aw → as.ok η → I T → (evE c e η T).wp fun w T' => aw.ok w ∧ I T'
  | .var i, as, η, aw, T, e, h, hT => by
    rw [aE] at e
    have hg := aen_get (i := i) h
    split at e <;> simp only [Option.some.injEq, reduceCtorEq] at e <;> subst e <;> rename_i q <;> rw [q] at hg
    · obtain ⟨d, h1, h2⟩ := hg
      rw [e_var, h1]
      exact wp_ok.mpr ⟨⟨d, rfl, h2⟩, hT⟩
    · obtain ⟨d, h1, h2⟩ := hg
      rw [e_var, h1]
      exact wp_ok.mpr ⟨⟨d, rfl, h2⟩, hT⟩
  | .cst d, as, η, aw, T, e, h, hT => by
    rw [aE] at e
    split at e <;> simp only [Option.some.injEq, reduceCtorEq] at e
    rename_i q
    subst e
    rw [e_cst]
    exact wp_ok.mpr ⟨⟨d, rfl, ofD_ok q⟩, hT⟩
  | .gint _ i, as, η, aw, T, e, h, hT => by
    simp only [aE, Option.some.injEq] at e
    subst e
    rw [evE]
    exact wp_ok.mpr ⟨⟨_, rfl, aok_int.mpr ⟨_, rfl, by omega, by omega, fun h => of_decide_eq_true h⟩⟩, hT⟩
  | .gfn _, as, η, aw, T, e, h, hT => by simp [aE] at e
  | .tup es, as, η, aw, T, e, h, hT => by
    rw [aE] at e
    split at e
    · simp only [Option.some.injEq] at e
      rename_i q
      subst e
      obtain ⟨d, h1, h2⟩ := negP_ok (c := c) (T := T) q h
      rw [h1]
      exact wp_ok.mpr ⟨⟨d, rfl, h2⟩, hT⟩
    · split at e <;> simp only [Option.some.injEq, reduceCtorEq] at e
      rename_i q
      subst e
      rw [e_tup, wp_bind]
      refine wp_step (aDs_ok es q h hT) fun ds T1 ⟨h1, h2⟩ => ?_
      exact wp_ok.mpr ⟨⟨_, rfl, by rw [A.ok]; exact ⟨_, rfl, h1⟩⟩, h2⟩
  | .lst es, as, η, aw, T, e, h, hT => by
    rw [aE] at e
    split at e <;> simp only [Option.some.injEq, reduceCtorEq] at e
    rename_i q
    subst e
    rw [e_lst, wp_bind]
    refine wp_step (aDs_ok es q h hT) fun ds T1 ⟨h1, h2⟩ => ?_
    exact wp_ok.mpr ⟨⟨_, rfl, by rw [A.ok]; exact ⟨_, rfl, h1⟩⟩, h2⟩
  | .bin op a b, as, η, aw, T, e, h, hT => by
    rw [aE] at e
    split at e <;> try (cases e; done)
    rename_i q1
    split at e <;> try (cases e; done)
    rename_i q2
    split at e <;> simp only [Option.some.injEq, reduceCtorEq] at e
    rename_i q3
    subst e
    obtain ⟨w, T1, hw, h1, h2⟩ := wp_ex (aE_ok a q1 h hT)
    obtain ⟨u, T2, hu, h3, h4⟩ := wp_ex (aE_ok b q2 h h2)
    obtain ⟨v, h5, h6⟩ := aBinW_ok q3 h1 h3
    have he : evE c (.bin op a b) η T = .ok v T2 := by rw [e_bin, hw, Re.bind_ok, hu, Re.bind_ok, h5, Re.of_some]
    rw [he]
    exact wp_ok.mpr ⟨mkOdd_ok (fun hp => oddP_ok hp he) h6, h4⟩
  | .neg a, as, η, aw, T, e, h, hT => by
    rw [aE] at e
    split at e <;> try (cases e; done)
    rename_i q1
    split at e <;> simp only [Option.some.injEq, reduceCtorEq] at e
    rename_i q2
    subst e
    rw [e_neg, wp_bind]
    refine wp_step (aE_ok a q1 h hT) fun w T1 ⟨h1, h2⟩ => ?_
    obtain ⟨d, rfl, h1⟩ := h1
    obtain ⟨a1, x, k1, k2, k3⟩ := mapA_ok q2 h1
    split at k2 <;> simp only [Option.some.injEq, reduceCtorEq] at k2
    subst k2
    obtain ⟨i, rfl, h3, h4, h5⟩ := aok_int.mp k1
    simp only [W.i?_int]
    exact wp_ok.mpr ⟨⟨_, rfl, k3 _ (aok_int.mpr ⟨_, rfl, by omega, by omega, fun h => by have := h5 h; omega⟩)⟩, h2⟩
  | .cmp op a b, as, η, aw, T, e, h, hT => by
    rw [aE] at e
    split at e <;> try (cases e; done)
    rename_i q1
    split at e <;> try (cases e; done)
    rename_i q2
    split at e <;> simp only [Option.some.injEq, reduceCtorEq] at e
    rename_i q3
    subst e
    rw [e_cmp, wp_bind]
    refine wp_step (aE_ok a q1 h hT) fun w T1 ⟨h1, h2⟩ => ?_
    rw [wp_bind]
    refine wp_step (aE_ok b q2 h h2) fun u T2 ⟨h3, h4⟩ => ?_
    obtain ⟨v, h5, h6⟩ := aCmpW_ok q3 h1 h3
    rw [h5, Re.of_some, Re.bind_ok]
    exact wp_ok.mpr ⟨bl_aw h6, h4⟩
  | .chain op op2 a b d, as, η, aw, T, e, h, hT => by
    rw [aE] at e
    split at e <;> try (cases e; done)
    rename_i q1
    split at e <;> try (cases e; done)
    rename_i q2
    rw [e_chain, wp_bind]
    refine wp_step (aE_ok a q1 h hT) fun w T1 ⟨h1, h2⟩ => ?_
    rw [wp_bind]
    refine wp_step (aE_ok b q2 h h2) fun u T2 ⟨h3, h4⟩ => ?_
    split at e <;> try (cases e; done)
    · rename_i q3
      simp only [Option.some.injEq] at e
      subst e
      obtain ⟨v, h5, h6⟩ := aCmpW_ok q3 h1 h3
      rw [h5, Re.of_some, Re.bind_ok]
      simp at h6
      subst h6
      exact wp_ok.mpr ⟨bl_aw (.inr rfl), h4⟩
    · rename_i r _ q3
      obtain ⟨v, h5, h6⟩ := aCmpW_ok q3 h1 h3
      rw [h5, Re.of_some, Re.bind_ok]
      split at e <;> try (cases e; done)
      rename_i q4
      split at e <;> simp only [Option.some.injEq, reduceCtorEq] at e
      rename_i r2 q5
      subst e
      cases v with
      | false =>
        refine wp_ok.mpr ⟨bl_aw ?_, h4⟩
        rcases h6 with rfl | rfl
        · rcases r2 with _ | _ | _ <;> simp
        · rename_i hne; exact absurd rfl hne
      | true =>
        simp only [if_true]
        rw [wp_bind]
        refine wp_step (aE_ok d q4 h h4) fun x T3 ⟨h7, h8⟩ => ?_
        obtain ⟨v2, h9, h10⟩ := aCmpW_ok q5 h3 h7
        rw [h9, Re.of_some, Re.bind_ok]
        exact wp_ok.mpr ⟨bl_aw (by simpa using and_b h6 h10), h8⟩
  | .and a b, as, η, aw, T, e, h, hT => by
    rw [aE] at e
    split at e <;> try (cases e; done)
    rename_i q1
    rw [e_and, wp_bind]
    obtain ⟨w, T1, hw, h1, h2⟩ := wp_ex (aE_ok a q1 h hT)
    rw [hw]
    refine wp_ok.mpr ?_
    split at e <;> try (cases e; done)
    · rename_i q2
      simp only [Option.some.injEq] at e
      subst e
      obtain ⟨r, rfl, h3⟩ := bOf_ok q2 h1
      simp at h3
      subst h3
      exact wp_ok.mpr ⟨bl_aw (.inr rfl), h2⟩
    · rename_i r hne q2
      obtain ⟨v, rfl, h3⟩ := bOf_ok q2 h1
      cases v with
      | false =>
        simp only [W.b?_bl]
        refine wp_ok.mpr ⟨?_, h2⟩
        split at e
        · simp only [Option.some.injEq] at e
          subst e
          exact bl_aw (.inr rfl)
        · split at e <;> try (cases e; done)
          split at e <;> simp only [Option.some.injEq, reduceCtorEq] at e
          rename_i r2 _
          subst e
          refine bl_aw ?_
          rcases h3 with rfl | rfl
          · rcases r2 with _ | _ | _ <;> simp
          · exact (hne rfl).elim
      | true =>
        obtain ⟨as1, k1, k2⟩ := rf_ok (c := c) _ a (Nat.le_refl _) h hw
        rw [k1] at e
        simp only at e
        split at e <;> try (cases e; done)
        rename_i q3
        split at e <;> simp only [Option.some.injEq, reduceCtorEq] at e
        rename_i r2 q4
        subst e
        simp only [W.b?_bl, if_true]
        refine wp_step (aE_ok b q3 k2 h2) fun x T3 ⟨h7, h8⟩ => ?_
        obtain ⟨v2, rfl, h10⟩ := bOf_ok q4 h7
        exact ⟨bl_aw (by simpa using and_b h3 h10), h8⟩
  | .or a b, as, η, aw, T, e, h, hT => by
    rw [aE] at e
    split at e <;> try (cases e; done)
    rename_i q1
    rw [e_or, wp_bind]
    obtain ⟨w, T1, hw, h1, h2⟩ := wp_ex (aE_ok a q1 h hT)
    rw [hw]
    refine wp_ok.mpr ?_
    split at e <;> try (cases e; done)
    · rename_i q2
      simp only [Option.some.injEq] at e
      subst e
      obtain ⟨r, rfl, h3⟩ := bOf_ok q2 h1
      simp at h3
      subst h3
      exact wp_ok.mpr ⟨bl_aw (.inr rfl), h2⟩
    · rename_i r hne q2
      obtain ⟨v, rfl, h3⟩ := bOf_ok q2 h1
      cases v with
      | true =>
        simp only [W.b?_bl]
        refine wp_ok.mpr ⟨?_, h2⟩
        split at e
        · simp only [Option.some.injEq] at e
          subst e
          exact bl_aw (.inr rfl)
        · split at e <;> try (cases e; done)
          split at e <;> simp only [Option.some.injEq, reduceCtorEq] at e
          rename_i r2 _
          subst e
          refine bl_aw ?_
          rcases h3 with rfl | rfl
          · rcases r2 with _ | _ | _ <;> simp
          · exact (hne rfl).elim
      | false =>
        obtain ⟨as1, k1, k2⟩ := rf_ok (c := c) _ a (Nat.le_refl _) h hw
        rw [k1] at e
        simp only at e
        split at e <;> try (cases e; done)
        rename_i q3
        split at e <;> simp only [Option.some.injEq, reduceCtorEq] at e
        rename_i r2 q4
        subst e
        simp only [W.b?_bl, Bool.false_eq_true, if_false]
        refine wp_step (aE_ok b q3 k2 h2) fun x T3 ⟨h7, h8⟩ => ?_
        obtain ⟨v2, rfl, h10⟩ := bOf_ok q4 h7
        exact ⟨bl_aw (by simpa using or_b h3 h10), h8⟩
  | .not a, as, η, aw, T, e, h, hT => by
    rw [aE] at e
    split at e <;> try (cases e; done)
    rename_i q1
    split at e <;> simp only [Option.some.injEq, reduceCtorEq] at e
    rename_i q2
    subst e
    rw [e_not, wp_bind]
    refine wp_step (aE_ok a q1 h hT) fun w T1 ⟨h1, h2⟩ => ?_
    obtain ⟨v, rfl, h3⟩ := bOf_ok q2 h1
    simp only [W.b?_bl]
    exact wp_ok.mpr ⟨bl_aw (flip_ok (p := false) h3), h2⟩
  | .ife t a b, as, η, aw, T, e, h, hT => by
    rw [aE] at e
    split at e <;> try (cases e; done)
    rename_i q1
    rw [e_ife, wp_bind]
    obtain ⟨w, T1, hw, h1, h2⟩ := wp_ex (aE_ok t q1 h hT)
    rw [hw]
    refine wp_ok.mpr ?_
    split at e <;> try (cases e; done)
    · rename_i q2
      obtain ⟨v, rfl, h3⟩ := bOf_ok q2 h1
      simp at h3
      subst h3
      simp only [W.b?_bl, if_true]
      exact aE_ok a e h h2
    · rename_i q2
      obtain ⟨v, rfl, h3⟩ := bOf_ok q2 h1
      simp at h3
      subst h3
      simp only [W.b?_bl, Bool.false_eq_true, if_false]
      exact aE_ok b e h h2
    · rename_i q2
      obtain ⟨v, rfl, h3⟩ := bOf_ok q2 h1
      obtain ⟨as1, k1, k2⟩ := rf_ok (c := c) _ t (Nat.le_refl _) h hw
      cases v with
      | true =>
        simp only [W.b?_bl, if_true]
        rw [k1] at e
        simp only at e
        split at e
        · exact aE_ok a e k2 h2
        · split at e <;> try (cases e; done)
          rename_i q3
          split at e <;> try (cases e; done)
          rename_i q4
          refine wp_step (aE_ok a q3 k2 h2) fun x T3 ⟨h7, h8⟩ => ⟨awUni_ok e (.inl h7), h8⟩
      | false =>
        simp only [W.b?_bl, Bool.false_eq_true, if_false]
        rw [k1] at e
        split at e
        · exact aE_ok b e k2 h2
        · simp only at e
          split at e <;> try (cases e; done)
          rename_i q3
          split at e <;> try (cases e; done)
          rename_i q4
          refine wp_step (aE_ok b q4 k2 h2) fun x T3 ⟨h7, h8⟩ => ⟨awUni_ok e (.inr h7), h8⟩
  | .ix a i, as, η, aw, T, e, h, hT => by
    rw [aE] at e
    split at e <;> try (cases e; done)
    rename_i q1
    split at e <;> try (cases e; done)
    rename_i q2
    split at e <;> simp only [Option.some.injEq, reduceCtorEq] at e
    rename_i q3
    subst e
    rw [e_ix, wp_bind]
    refine wp_step (aE_ok a q1 h hT) fun w T1 ⟨h1, h2⟩ => ?_
    rw [wp_bind]
    refine wp_step (aE_ok i q2 h h2) fun u T2 ⟨h3, h4⟩ => ?_
    obtain ⟨d, rfl, h3⟩ := h3
    obtain ⟨v, h5, h6⟩ := aIx_ok q3 h1 h3
    exact of_wp (h5 T2) ⟨⟨_, rfl, h6⟩, h4⟩
  | .sl a lo hi, as, η, aw, T, e, h, hT => by
    rw [aE] at e
    split at e <;> try (cases e; done)
    rename_i q1
    split at e <;> try (cases e; done)
    rename_i q2
    split at e <;> try (cases e; done)
    rename_i q3
    rw [e_sl, wp_bind]
    refine wp_step (aE_ok a q1 h hT) fun w T1 ⟨h1, h2⟩ => ?_
    rw [wp_bind]
    refine wp_step (aO_ok lo q2 h h2) fun l T2 ⟨h3, h4⟩ => ?_
    rw [wp_bind]
    refine wp_step (aO_ok hi q3 h h4) fun g T3 ⟨h5, h6⟩ => ?_
    obtain ⟨v, h7, h8⟩ := aSl_ok e h1 h3 h5
    exact of_wp (h7 T3) ⟨h8, h6⟩
  | .call f es, as, η, aw, T, e, h, hT => by
    rw [aE] at e
    split at e <;> try (cases e; done)
    rename_i q1
    split at e <;> simp only [Option.some.injEq, reduceCtorEq] at e
    rename_i q2
    subst e
    rw [e_call, wp_bind]
    refine wp_step (aDs_ok es q1 h hT) fun ds T1 ⟨h1, h2⟩ => ?_
    rw [wp_bind]
    refine wp_step (hk _ _ _ _ _ q2 h1 h2) fun d T2 ⟨h3, h4⟩ => ?_
    exact wp_ok.mpr ⟨⟨d, rfl, h3⟩, h4⟩
  | .callK f n perm es, as, η, aw, T, e, h, hT => by
    rw [aE] at e
    split at e <;> try (cases e; done)
    rename_i q1
    split at e <;> try (cases e; done)
    rename_i q3
    split at e <;> simp only [Option.some.injEq, reduceCtorEq] at e
    rename_i q2
    subst e
    rw [e_callK, wp_bind]
    refine wp_step (aDs_ok es q1 h hT) fun ds T1 ⟨h1, h2⟩ => ?_
    obtain ⟨es', h5, h6⟩ := permA_ok q3 h1
    rw [h5]
    simp only
    rw [wp_bind]
    refine wp_step (hk _ _ _ _ _ q2 h6 h2) fun d T2 ⟨h3, h4⟩ => ?_
    exact wp_ok.mpr ⟨⟨d, rfl, h3⟩, h4⟩
  | .b1 b a, as, η, aw, T, e, h, hT => by
    rw [aE] at e
    split at e <;> try (cases e; done)
    rename_i q1
    rw [e_b1, wp_bind]
    refine wp_step (aE_ok a q1 h hT) fun w T1 ⟨h1, h2⟩ => ?_
    obtain ⟨v, h7, h8⟩ := aB1_ok e h1
    exact of_wp (h7 T1) ⟨h8, h2⟩
  | .b2 b a1 a2, as, η, aw, T, e, h, hT => by
    rw [aE] at e
    split at e <;> try (cases e; done)
    rename_i q1
    split at e <;> try (cases e; done)
    rename_i q2
    split at e <;> simp only [Option.some.injEq, reduceCtorEq] at e
    rename_i q3
    subst e
    rw [e_b2, wp_bind]
    refine wp_step (aE_ok a1 q1 h hT) fun w T1 ⟨h1, h2⟩ => ?_
    rw [wp_bind]
    refine wp_step (aE_ok a2 q2 h h2) fun u T2 ⟨h3, h4⟩ => ?_
    obtain ⟨d, rfl, h1⟩ := h1
    obtain ⟨d2, rfl, h3⟩ := h3
    obtain ⟨v, h5, h6⟩ := aB2_ok q3 h1 h3
    exact of_wp h5 ⟨⟨_, rfl, h6⟩, h4⟩
  | .isi a t, as, η, aw, T, e, h, hT => by
    rw [aE] at e
    split at e <;> try (cases e; done)
    rename_i q1
    split at e <;> simp only [Option.some.injEq, reduceCtorEq] at e
    rename_i q2
    subst e
    rw [e_isi, wp_bind]
    refine wp_step (aE_ok a q1 h hT) fun w T1 ⟨h1, h2⟩ => ?_
    rw [isiA_ok q2 h1, Re.of_some, Re.bind_ok]
    exact wp_ok.mpr ⟨bl_aw (.inr rfl), h2⟩
  | .bitlen a, as, η, aw, T, e, h, hT => by
    rw [aE] at e
    split at e <;> try (cases e; done)
    rename_i q1
    split at e <;> simp only [Option.some.injEq, reduceCtorEq] at e
    rename_i q2
    subst e
    rw [e_bits, wp_bind]
    refine wp_step (aE_ok a q1 h hT) fun w T1 ⟨h1, h2⟩ => ?_
    obtain ⟨d, rfl, h1⟩ := h1
    obtain ⟨a1, x, k1, k2, k3⟩ := mapA_ok q2 h1
    split at k2 <;> simp only [Option.some.injEq, reduceCtorEq] at k2
    subst k2
    obtain ⟨i, rfl, h3, h4, h5⟩ := aok_int.mp k1
    have := bits_range h3 h4
    simp only [W.i?_int]
    exact wp_ok.mpr ⟨⟨_, rfl, k3 _ (aok_int.mpr ⟨_, rfl, by omega, by omega, fun h => by cases h⟩)⟩, h2⟩
  | .lc elt tg it cn vs, as, η, aw, T, e, h, hT => by
    rw [aE] at e
    split at e <;> try (cases e; done)
    rename_i itv q1
    unfold lcA at e
    split at e <;> try (cases e; done)
    rename_i hmx
    rw [evE_lc, wp_bind]
    refine wp_step (aI_ok it q1 h hT) fun xs T1 ⟨h1, h2⟩ => ?_
    have hl := aimx_ok h1
    rw [if_neg (by show ¬ (1000000 : Nat) < xs.length; omega), wp_bind]
    have hf : ∀ a r d T, lcF1 (fun η => aE k elt η) (fun η => aCo k cn η) tg (aWipe as vs) a = some r → a.ok d → I T → ∃ η1, asgT tg d (wipeE η vs) = some η1 ∧ (lcF c elt cn η1 T).wp fun o T' => IR.ok r o ∧ I T' := by
      intro a r d T q ha hT
      unfold lcF1 at q
      split at q <;> try (cases q; done)
      rename_i as1 q2
      obtain ⟨η1, g1, g2⟩ := aAsg_ok tg q2 ha (aWipe_ok h vs)
      refine ⟨η1, g1, ?_⟩
      have elt_wp : ∀ {as2 : AEn} {T : Sto} {w : AW} {a : A}, aE k elt as2 = some w → w.st = some a → as2.ok η1 → I T → ((evE c elt η1 T).bind fun w T => match w.st with | some d => .ok (some d) T | none => .no).wp fun (o : Option D) T' => (∃ d, o = some d ∧ a.ok d) ∧ I T' := by
        intro as2 T w a e1 e2 e3 e4
        rw [wp_bind]
        refine wp_step (aE_ok elt e1 e3 e4) fun w T1 ⟨k1, k2⟩ => ?_
        obtain ⟨d, k3, k4⟩ := awst_ok e2 k1
        rw [k3]
        exact wp_ok.mpr ⟨⟨d, rfl, k4⟩, k2⟩
      have hc := aCo_ok cn (T := T) (r := aCo k cn as1) rfl g2 hT
      unfold itemR at q
      simp only at q
      unfold lcF
      split at q
      · cases q
      · rename_i q3
        cases cn with
        | some cn => rw [q3] at hc; exact hc.elim
        | none =>
          simp only
          split at q <;> try (cases q; done)
          rename_i w q4
          split at q <;> simp only [Option.some.injEq, reduceCtorEq] at q
          rename_i a' q5
          subst q
          refine wp_step (elt_wp q4 q5 g2 hT) fun o T1 ⟨⟨d, k1, k2⟩, k3⟩ => ?_
          subst k1
          exact ⟨⟨_, rfl, k2⟩, k3⟩
      · rename_i q3
        cases cn with
        | none => rw [q3] at hc; exact hc.elim
        | some cn =>
          rw [q3] at hc
          obtain ⟨v, T2, hw, h7, h8, h9⟩ := hc
          simp only [Option.some.injEq] at q
          subst q
          simp at h7
          subst h7
          simp only
          rw [hw, Re.bind_ok]
          exact wp_ok.mpr ⟨.inl rfl, h8⟩
      · rename_i hne q3
        cases cn with
        | none => rw [q3] at hc; exact hc.elim
        | some cn =>
          rw [q3] at hc
          obtain ⟨v, T2, hw, h7, h8, h9⟩ := hc
          simp only [Option.some.injEq] at q
          subst q
          simp only
          rw [hw, Re.bind_ok]
          cases v with
          | false => exact wp_ok.mpr ⟨.inl rfl, h8⟩
          | true =>
            obtain ⟨as3, k1, k2⟩ := h9 rfl
            cases k1
      · rename_i b as3 hne q3
        cases cn with
        | none => rw [q3] at hc; exact hc.elim
        | some cn =>
          rw [q3] at hc
          obtain ⟨v, T2, hw, h7, h8, h9⟩ := hc
          split at q <;> try (cases q; done)
          rename_i w q4
          split at q <;> simp only [Option.some.injEq, reduceCtorEq] at q
          rename_i a' q5
          subst q
          simp only
          rw [hw, Re.bind_ok]
          cases v with
          | false =>
            refine wp_ok.mpr ⟨.inr ?_, h8⟩
            rcases h7 with rfl | rfl
            · rfl
            · rfl
          | true =>
            obtain ⟨as4, k1, k2⟩ := h9 rfl
            cases k1
            refine wp_step (elt_wp q4 q5 k2 h8) fun o T1 ⟨⟨d, k1, k2⟩, k3⟩ => ?_
            subst k1
            exact ⟨⟨_, rfl, k2⟩, k3⟩
    split at e
    · split at e <;> simp only [Option.some.injEq, reduceCtorEq] at e
      rename_i q2
      subst e
      refine wp_step (row_ok hf q2 h1 h2) fun ys T2 ⟨h3, h4⟩ => ?_
      exact wp_ok.mpr ⟨⟨_, rfl, rowA_ok h3⟩, h4⟩
    · split at e <;> simp only [Option.some.injEq, reduceCtorEq] at e
      rename_i q2
      subst e
      obtain ⟨h5, h6, h7⟩ := h1
      refine wp_step (many_ok hf q2 h7 h2) fun ys T2 ⟨h3, h4⟩ => ?_
      exact wp_ok.mpr ⟨⟨_, rfl, manyA_ok h5 h6 h3⟩, h4⟩
  | .rng _ _, as, η, aw, T, e, h, hT => by simp [aE] at e
  | .enum _, as, η, aw, T, e, h, hT => by simp [aE] at e
  | .zip _, as, η, aw, T, e, h, hT => by simp [aE] at e
  | .rvd _, as, η, aw, T, e, h, hT => by simp [aE] at e
  | .sq _, as, η, aw, T, e, h, hT => by simp [aE] at e
  | .pop _, as, η, aw, T, e, h, hT => by simp [aE] at e
  | .share _, as, η, aw, T, e, h, hT => by simp [aE] at e
  | .isE _ _ _ _, as, η, aw, T, e, h, hT => by simp [aE] at e
  | .fldE _ _, as, η, aw, T, e, h, hT => by simp [aE] at e
theorem aO_ok : ∀ (o : Option E) {as : AEn} {η : En} {r : Option A} {T : Sto}, aO k o as = some r → as.ok η → I T → (evO c o η T).wp fun x T' => bdOk r x ∧ I T'
  | none, as, η, r, T, e, h, hT => by
    simp only [aO, Option.some.injEq] at e
    subst e
    rw [o_n]
    exact wp_ok.mpr ⟨rfl, hT⟩
  | some a, as, η, r, T, e, h, hT => by
    rw [aO] at e
    split at e <;> simp only [Option.some.injEq, reduceCtorEq] at e
    rename_i q
    subst e
    rw [o_s, wp_bind]
    refine wp_step (aE_ok a q h hT) fun w T1 ⟨h1, h2⟩ => ?_
    obtain ⟨i, rfl, h3⟩ := int_aw rfl h1
    simp only [W.i?_int]
    exact wp_ok.mpr ⟨⟨i, rfl, aok_int.mpr ⟨_, rfl, h3⟩⟩, h2⟩
theorem aCo_ok : ∀ (o : Option E) {as : AEn} {η : En} {r : Option (Option (Option Bool × Option AEn))} {T : Sto}, aCo k o as = r → as.ok η → I T → coOk c o η T I r
  | none, as, η, r, T, e, h, hT => by
    rw [aCo] at e
    subst e
    trivial
  | some a, as, η, r, T, e, h, hT => by
    rw [aCo] at e
    split at e
    · rename_i q1
      obtain ⟨w, T1, hw, h1, h2⟩ := wp_ex (aE_ok a q1 h hT)
      split at e
      · rename_i q2
        subst e
        obtain ⟨v, rfl, h3⟩ := bOf_ok q2 h1
        refine ⟨v, T1, hw, h3, h2, fun hv => ?_⟩
        subst hv
        exact rf_ok (c := c) _ a (Nat.le_refl _) h hw
      · subst e
        trivial
    · subst e
      trivial
theorem aDs_ok : ∀ (es : List E) {as : AEn} {η : En} {bs : List A} {T : Sto}, aDs k es as = some bs → as.ok η → I T → (evDs c es η T).wp fun ds T' => A.oks bs ds ∧ I T'
  | [], as, η, bs, T, e, h, hT => by
    simp only [aDs, Option.some.injEq] at e
    subst e
    rw [d_n]
    exact wp_ok.mpr ⟨oks_nil, hT⟩
  | a :: es, as, η, bs, T, e, h, hT => by
    rw [aDs] at e
    split at e <;> try (cases e; done)
    rename_i q1
    split at e <;> try (cases e; done)
    rename_i q2
    split at e <;> simp only [Option.some.injEq, reduceCtorEq] at e
    rename_i q3
    subst e
    rw [d_c, wp_bind]
    refine wp_step (aE_ok a q1 h hT) fun w T1 ⟨h1, h2⟩ => ?_
    obtain ⟨d, h3, h4⟩ := awst_ok q2 h1
    rw [h3]
    simp only
    rw [wp_bind]
    refine wp_step (aDs_ok es q3 h h2) fun ds T2 ⟨h5, h6⟩ => ?_
    exact wp_ok.mpr ⟨oks_cons h4 h5, h6⟩
theorem aI_ok : ∀ (e : E) {as : AEn} {η : En} {it : AI} {T : Sto}, aI k e as = some it → as.ok η → I T → (evI c e η T).wp fun ds T' => it.ok ds ∧ I T'
  | .rng none hi, as, η, it, T, e, h, hT => by
    rw [aI] at e
    split at e <;> try (cases e; done)
    rename_i q
    rw [i_rng0, wp_bind]
    refine wp_step (aE_ok hi q h hT) fun w T1 ⟨h1, h2⟩ => ?_
    obtain ⟨i, rfl, h3, h4, _⟩ := int_aw rfl h1
    obtain ⟨k1, k2, k3⟩ := rngA_ok e (i := 0) (by omega) (by omega) h3 h4
    simp only [W.i?_int]
    rw [if_pos ⟨k1, k2⟩]
    exact wp_ok.mpr ⟨k3, h2⟩
  | .rng (some lo) hi, as, η, it, T, e, h, hT => by
    rw [aI] at e
    split at e <;> try (cases e; done)
    rename_i q
    split at e <;> try (cases e; done)
    rename_i q2
    rw [i_rng, wp_bind]
    refine wp_step (aE_ok lo q h hT) fun w T1 ⟨h1, h2⟩ => ?_
    obtain ⟨i, rfl, h3, h4, _⟩ := int_aw rfl h1
    rw [W.i?_int, Re.of_some, Re.bind_ok, wp_bind]
    refine wp_step (aE_ok hi q2 h h2) fun w T2 ⟨h5, h6⟩ => ?_
    obtain ⟨j, rfl, h7, h8, _⟩ := int_aw rfl h5
    obtain ⟨k1, k2, k3⟩ := rngA_ok e h3 h4 h7 h8
    simp only [W.i?_int]
    rw [if_pos ⟨k1, k2⟩]
    exact wp_ok.mpr ⟨k3, h6⟩
  | .enum a, as, η, it, T, e, h, hT => by
    rw [aI] at e
    split at e <;> try (cases e; done)
    rename_i q
    split at e <;> try (cases e; done)
    rename_i q2
    split at e <;> try (cases e; done)
    rename_i hL
    split at e <;> simp only [Option.some.injEq, reduceCtorEq] at e
    rename_i q3
    subst e
    rw [evI, wp_bind]
    refine wp_step (aE_ok a q h hT) fun w T1 ⟨h1, h2⟩ => ?_
    obtain ⟨d, h3, h4⟩ := awst_ok q2 h1
    obtain ⟨ds, rfl⟩ := isL_ok hL h4
    rw [h3]
    exact wp_ok.mpr ⟨aEnum_ok (items_L q3 h4), h2⟩
  | .zip es, as, η, it, T, e, h, hT => by
    rw [aI] at e
    split at e <;> try (cases e; done)
    rename_i x y q
    split at e <;> try (cases e; done)
    rename_i hL
    split at e <;> try (cases e; done)
    rename_i q3
    split at e <;> simp only [Option.some.injEq, reduceCtorEq] at e
    rename_i q4
    subst e
    rw [evI, wp_bind]
    refine wp_step (aDs_ok es q h hT) fun ds T1 ⟨h1, h2⟩ => ?_
    rw [A.oks] at h1
    obtain ⟨d1, xs, rfl, h3, h1⟩ := h1
    rw [A.oks] at h1
    obtain ⟨d2, xs, rfl, h4, h1⟩ := h1
    rw [A.oks] at h1
    subst h1
    obtain ⟨ds, rfl⟩ := isL_ok hL.1 h3
    obtain ⟨es, rfl⟩ := isL_ok hL.2 h4
    exact wp_ok.mpr ⟨aZip_ok (items_L q3 h3) (items_L q4 h4), h2⟩
  | .rvd a, as, η, it, T, e, h, hT => by
    rw [aI] at e
    split at e <;> try (cases e; done)
    rename_i q
    split at e <;> try (cases e; done)
    rename_i q2
    split at e <;> simp only [Option.some.injEq, reduceCtorEq] at e
    rename_i q3
    subst e
    rw [it_rvd, wp_bind]
    refine wp_step (aE_ok a q h hT) fun w T1 ⟨h1, h2⟩ => ?_
    obtain ⟨d, h3, h4⟩ := awst_ok q2 h1
    obtain ⟨ds, _, h6, h7⟩ := items_ok q3 h4
    rw [h3]
    rcases h7 with rfl | rfl <;> exact wp_ok.mpr ⟨aRev_ok h6, h2⟩
  | .sq a, as, η, it, T, e, h, hT => by
    rw [aI] at e
    split at e <;> try (cases e; done)
    rename_i q
    split at e <;> try (cases e; done)
    rename_i q2
    rw [it_sq, wp_bind]
    refine wp_step (aE_ok a q h hT) fun w T1 ⟨h1, h2⟩ => ?_
    obtain ⟨d, h3, h4⟩ := awst_ok q2 h1
    obtain ⟨ds, _, h6, h7⟩ := items_ok e h4
    rw [h3]
    rcases h7 with rfl | rfl <;> exact wp_ok.mpr ⟨h6, h2⟩
  | .var _, as, η, it, T, e, h, hT => by simp [aI] at e
  | .cst _, as, η, it, T, e, h, hT => by simp [aI] at e
  | .gint _ _, as, η, it, T, e, h, hT => by simp [aI] at e
  | .gfn _, as, η, it, T, e, h, hT => by simp [aI] at e
  | .tup _, as, η, it, T, e, h, hT => by simp [aI] at e
  | .lst _, as, η, it, T, e, h, hT => by simp [aI] at e
  | .bin _ _ _, as, η, it, T, e, h, hT => by simp [aI] at e
  | .neg _, as, η, it, T, e, h, hT => by simp [aI] at e
  | .cmp _ _ _, as, η, it, T, e, h, hT => by simp [aI] at e
  | .chain _ _ _ _ _, as, η, it, T, e, h, hT => by simp [aI] at e
  | .and _ _, as, η, it, T, e, h, hT => by simp [aI] at e
  | .or _ _, as, η, it, T, e, h, hT => by simp [aI] at e
  | .not _, as, η, it, T, e, h, hT => by simp [aI] at e
  | .ife _ _ _, as, η, it, T, e, h, hT => by simp [aI] at e
  | .ix _ _, as, η, it, T, e, h, hT => by simp [aI] at e
  | .sl _ _ _, as, η, it, T, e, h, hT => by simp [aI] at e
  | .call _ _, as, η, it, T, e, h, hT => by simp [aI] at e
  | .callK _ _ _ _, as, η, it, T, e, h, hT => by simp [aI] at e
  | .b1 _ _, as, η, it, T, e, h, hT => by simp [aI] at e
  | .b2 _ _ _, as, η, it, T, e, h, hT => by simp [aI] at e
  | .isi _ _, as, η, it, T, e, h, hT => by simp [aI] at e
  | .bitlen _, as, η, it, T, e, h, hT => by simp [aI] at e
  | .lc _ _ _ _ _, as, η, it, T, e, h, hT => by simp [aI] at e
  | .pop _, as, η, it, T, e, h, hT => by simp [aI] at e
  | .share _, as, η, it, T, e, h, hT => by simp [aI] at e
  | .isE _ _ _ _, as, η, it, T, e, h, hT => by simp [aI] at e
  | .fldE _ _, as, η, it, T, e, h, hT => by simp [aI] at e
end
end
end Ev
/-! Statements, defs at what values may be. -/
namespace Ev
open PySem
def AS.eq : AS → AS → Bool
  | .no, .no => true
  | .any, .any => true
  | .val a, .val b => A.eq a b
  | .own a, .own b => A.eq a b
  | _, _ => false
theorem AS.eq_ok {a b : AS} (h : AS.eq a b = true) : a = b := by
  cases a <;> cases b <;> simp only [AS.eq, Bool.false_eq_true] at h <;> first | rfl | rw [A.eq_ok _ _ h]
def AEn.eq : AEn → AEn → Bool
  | [], [] => true
  | a :: as, b :: bs => AS.eq a b && AEn.eq as bs
  | _, _ => false
theorem AEn.eq_ok : ∀ {as bs : AEn}, AEn.eq as bs = true → as = bs
  | [], [], _ => rfl
  | [], b :: bs, h => by simp [AEn.eq] at h
  | a :: as, [], h => by simp [AEn.eq] at h
  | a :: as, b :: bs, h => by
    rw [AEn.eq, Bool.and_eq_true] at h
    rw [AS.eq_ok h.1, AEn.eq_ok h.2]
def AS.mrg : AS → AS → AS
  | .no, .no => .no
  | .val a, .val b => .val (a.uni b)
  | .own a, .own b => .own (a.uni b)
  | _, _ => .any
theorem mrgS_l {a b : AS} {s : Slot} (h : a.ok s) : (a.mrg b).ok s := by
  cases a <;> cases b <;> simp only [AS.mrg] <;> first | trivial | exact h | skip
  · obtain ⟨d, rfl, h⟩ := h; exact ⟨d, rfl, uni_l h⟩
  · obtain ⟨d, rfl, h⟩ := h; exact ⟨d, rfl, uni_l h⟩
theorem mrgS_r {a b : AS} {s : Slot} (h : b.ok s) : (a.mrg b).ok s := by
  cases a <;> cases b <;> simp only [AS.mrg] <;> first | trivial | exact h | skip
  · obtain ⟨d, rfl, h⟩ := h; exact ⟨d, rfl, uni_r h⟩
  · obtain ⟨d, rfl, h⟩ := h; exact ⟨d, rfl, uni_r h⟩
def AEn.mrg : AEn → AEn → AEn
  | a :: as, b :: bs => a.mrg b :: AEn.mrg as bs
  | _, _ => []
theorem mrg_l {as bs : AEn} {η : En} (hl : as.length = bs.length) (h : as.ok η) : (as.mrg bs).ok η := by
  induction as generalizing bs η with
  | nil => cases bs <;> exact h
  | cons a as ih =>
    obtain ⟨s, ss, rfl, h1, h2⟩ := h
    cases bs with
    | nil => simp at hl
    | cons b bs => exact ⟨s, ss, rfl, mrgS_l h1, ih (by simpa using hl) h2⟩
theorem mrg_r {as bs : AEn} {η : En} (hl : as.length = bs.length) (h : bs.ok η) : (as.mrg bs).ok η := by
  induction as generalizing bs η with
  | nil =>
    cases bs with
    | nil => exact h
    | cons b bs => simp at hl
  | cons a as ih =>
    cases bs with
    | nil => simp at hl
    | cons b bs =>
      obtain ⟨s, ss, rfl, h1, h2⟩ := h
      exact ⟨s, ss, rfl, mrgS_r h1, ih (by simpa using hl) h2⟩
/-- all in one; as it is where lengths differ -/
def mrgAll : List AEn → List AEn
  | [] => []
  | [a] => [a]
  | a :: as => match mrgAll as with
    | [b] => if a.length = b.length then (if AEn.eq a b = true then [b] else [a.mrg b]) else [a, b]
    | bs => a :: bs
def Ens (l : List AEn) (η : En) : Prop := ∃ a, a ∈ l ∧ a.ok η
theorem ens_nil {η : En} : ¬ Ens [] η := fun ⟨a, m, _⟩ => by cases m
theorem ens_l {l m : List AEn} {η : En} (h : Ens l η) : Ens (l ++ m) η := by
  obtain ⟨a, h1, h2⟩ := h
  exact ⟨a, List.mem_append_left _ h1, h2⟩
theorem ens_r {l m : List AEn} {η : En} (h : Ens m η) : Ens (l ++ m) η := by
  obtain ⟨a, h1, h2⟩ := h
  exact ⟨a, List.mem_append_right _ h1, h2⟩
theorem ens_c {a : AEn} {l : List AEn} {η : En} (h : Ens (a :: l) η) : a.ok η ∨ Ens l η := by
  obtain ⟨b, h1, h2⟩ := h
  cases h1 with
  | head => exact .inl h2
  | tail _ m => exact .inr ⟨b, m, h2⟩
theorem mrgAll_ok {l : List AEn} {η : En} (h : Ens l η) : Ens (mrgAll l) η := by
  induction l with
  | nil => exact h
  | cons a as ih =>
    cases as with
    | nil => exact h
    | cons c cs =>
      rw [mrgAll]
      · rcases ens_c h with h | h
        · split
          · rename_i b q
            split
            · rename_i hl
              split
              · rename_i he
                exact ⟨b, List.mem_singleton.mpr rfl, by rw [← AEn.eq_ok he]; exact h⟩
              · exact ⟨_, List.mem_singleton.mpr rfl, mrg_l hl h⟩
            · exact ⟨a, List.mem_cons_self, h⟩
          · exact ⟨a, List.mem_cons_self, h⟩
        · have := ih h
          split
          · rename_i b q
            rw [q] at this
            obtain ⟨b', m, h3⟩ := this
            rw [List.mem_singleton] at m
            subst m
            split
            · rename_i hl
              split
              · exact ⟨_, List.mem_singleton.mpr rfl, h3⟩
              · exact ⟨_, List.mem_singleton.mpr rfl, mrg_r hl h3⟩
            · exact ⟨_, List.mem_cons_of_mem _ List.mem_cons_self, h3⟩
          · obtain ⟨b', m, h3⟩ := this
            exact ⟨b', List.mem_cons_of_mem _ m, h3⟩
      · simp
structure AR where
  nx : List AEn
  rt : List A
  bk : List AEn
  ct : List AEn
def AR.add (r s : AR) : AR := ⟨r.nx ++ s.nx, insAs r.rt s.rt, r.bk ++ s.bk, r.ct ++ s.ct⟩
def AR.nil : AR := ⟨[], [], [], []⟩
section
variable {I : Sto → Prop}
def AR.wp (I : Sto → Prop) (r : AR) (s : SR) : Prop := s.wp (fun η T => Ens r.nx η ∧ I T) (fun d T => A.oko r.rt d ∧ I T) (fun η T => Ens r.bk η ∧ I T) (fun η T => Ens r.ct η ∧ I T)
theorem ar_l {r s : AR} {x : SR} (h : r.wp I x) : (r.add s).wp I x := wps_step h (fun _ _ h => ⟨ens_l h.1, h.2⟩) (fun _ _ h => ⟨insAs_l h.1, h.2⟩) (fun _ _ h => ⟨ens_l h.1, h.2⟩) fun _ _ h => ⟨ens_l h.1, h.2⟩
theorem ar_r {r s : AR} {x : SR} (h : s.wp I x) : (r.add s).wp I x := wps_step h (fun _ _ h => ⟨ens_r h.1, h.2⟩) (fun _ _ h => ⟨insAs_r h.1, h.2⟩) (fun _ _ h => ⟨ens_r h.1, h.2⟩) fun _ _ h => ⟨ens_r h.1, h.2⟩
theorem ar_nx {a : AEn} {l : List AEn} {η : En} {T : Sto} (m : a ∈ l) (h : a.ok η) (hT : I T) : (AR.mk l [] [] []).wp I (.nx η T) := by
  unfold AR.wp
  rw [wps_nx]
  exact ⟨⟨a, m, h⟩, hT⟩
theorem ar_nx2 {r : AR} {η : En} {T : Sto} (h : Ens r.nx η) (hT : I T) : r.wp I (.nx η T) := by
  unfold AR.wp
  rw [wps_nx]
  exact ⟨h, hT⟩
end
/-- each of several, all joined -/
def eachR {α : Type} (f : α → Option AR) : List α → Option AR
  | [] => some .nil
  | a :: as => match f a with
    | some r => (match eachR f as with
      | some s => some (r.add s)
      | none => none)
    | none => none
theorem eachR_ok {α : Type} {I : Sto → Prop} {f : α → Option AR} {as : List α} {a : α} {r : AR} (e : eachR f as = some r) (m : a ∈ as) : ∃ s, f a = some s ∧ ∀ x, s.wp I x → r.wp I x := by
  induction as generalizing r with
  | nil => cases m
  | cons b as ih =>
    rw [eachR] at e
    split at e <;> try (cases e; done)
    rename_i s q
    split at e <;> simp only [Option.some.injEq, reduceCtorEq] at e
    rename_i t q2
    subst e
    cases m with
    | head => exact ⟨s, q, fun x h => ar_l h⟩
    | tail _ m =>
      obtain ⟨u, h1, h2⟩ := ih q2 m
      exact ⟨u, h1, fun x h => ar_r (h2 x h)⟩
/-! loops -/
/-- one item, then the names -/
def stepR (body : AEn → Option AR) (tg : Tg) (a : A) (η : AEn) : Option AR := eachR (fun x => match aAsg tg x η with
  | some η1 => body η1
  | none => none) a.alts
def forEx (body : AEn → Option AR) (tg : Tg) : List A → AEn → Option AR
  | [], η => some ⟨[η], [], [], []⟩
  | a :: as, η => match stepR body tg a η with
    | some r => (match mrgAll (r.nx ++ r.ct) with
      | [] => some ⟨r.bk, r.rt, [], []⟩
      | [m] => (match forEx body tg as m with
        | some s => some ⟨s.nx ++ r.bk, insAs r.rt s.rt, [], []⟩
        | none => none)
      | _ => none)
    | none => none
def forMany (body : AEn → Option AR) (tg : Tg) (a : A) : Nat → AEn → Option AR
  | 0, η => some ⟨[η], [], [], []⟩
  | n + 1, η => match stepR body tg a η with
    | some r => (match mrgAll (η :: (r.nx ++ r.ct)) with
      | [m] => if AEn.eq m η = true then some ⟨η :: r.bk, r.rt, [], []⟩ else (match forMany body tg a n m with
        | some s => some ⟨s.nx ++ r.bk, insAs r.rt s.rt, [], []⟩
        | none => none)
      | _ => none)
    | none => none
theorem forEx_out {body : AEn → Option AR} {tg : Tg} {xs : List A} {as : AEn} {r : AR} (e : forEx body tg xs as = some r) : r.bk = [] ∧ r.ct = [] := by
  cases xs <;> simp only [forEx, Option.some.injEq] at e
  · subst e; exact ⟨rfl, rfl⟩
  · split at e <;> try (cases e; done)
    split at e <;> try (cases e; done)
    · simp only [Option.some.injEq] at e
      subst e; exact ⟨rfl, rfl⟩
    · split at e <;> simp only [Option.some.injEq, reduceCtorEq] at e
      subst e; exact ⟨rfl, rfl⟩
section
variable {I : Sto → Prop} {body : AEn → Option AR} {f : En → Sto → SR} {tg : Tg} (hb : ∀ as r η T, body as = some r → as.ok η → I T → r.wp I (f η T))
include hb
theorem step_ok {a : A} {as : AEn} {r : AR} {d : D} {η : En} {T : Sto} (e : stepR body tg a as = some r) (hd : a.ok d) (h : as.ok η) (hT : I T) : ∃ η1, asgT tg d η = some η1 ∧ r.wp I (f η1 T) := by
  unfold stepR at e
  have h3 := alts_ok hd
  rw [oko_mem] at h3
  obtain ⟨a1, m, h4⟩ := h3
  obtain ⟨s, q, g⟩ := eachR_ok (I := I) e m
  split at q <;> try (cases q; done)
  rename_i as1 q2
  obtain ⟨η1, h5, h6⟩ := aAsg_ok tg q2 h4 h
  exact ⟨η1, h5, g _ (hb _ _ _ _ q h6 hT)⟩
theorem forEx_ok {xs : List A} {as : AEn} {r : AR} {ds : List D} {η : En} {T : Sto} (e : forEx body tg xs as = some r) (hd : A.oks xs ds) (h : as.ok η) (hT : I T) : r.wp I (forL tg f ds η T) := by
  induction xs generalizing as r ds η T with
  | nil =>
    simp only [forEx, Option.some.injEq] at e
    rw [A.oks] at hd
    subst e hd
    rw [for_n]
    exact ar_nx List.mem_cons_self h hT
  | cons a xs ih =>
    rw [forEx] at e
    split at e <;> try (cases e; done)
    rename_i r1 q
    rw [A.oks] at hd
    obtain ⟨x, ys, rfl, h1, h2⟩ := hd
    obtain ⟨η1, h3, h4⟩ := step_ok hb q h1 h hT
    rw [for_c, h3]
    simp only
    have nxt : ∀ η2 T2, Ens (r1.nx ++ r1.ct) η2 → I T2 → r.wp I (forL tg f ys η2 T2) := by
      intro η2 T2 h5 h6
      have h7 := mrgAll_ok h5
      split at e <;> try (cases e; done)
      · rename_i q2
        rw [q2] at h7
        exact (ens_nil h7).elim
      · rename_i m q2
        rw [q2] at h7
        obtain ⟨m', mm, h8⟩ := h7
        rw [List.mem_singleton] at mm
        subst mm
        split at e <;> simp only [Option.some.injEq, reduceCtorEq] at e
        rename_i s q3
        subst e
        refine wps_step (ih q3 h2 h8 h6) (fun _ _ h => ⟨ens_l h.1, h.2⟩) (fun _ _ h => ⟨insAs_r h.1, h.2⟩) (fun _ _ h => ?_) (fun _ _ h => ?_)
        · rw [(forEx_out q3).1] at h; exact h
        · rw [(forEx_out q3).2] at h; exact h
    have rr : (∀ d, A.oko r1.rt d → A.oko r.rt d) ∧ (∀ η, Ens r1.bk η → Ens r.nx η) := by
      split at e <;> try (cases e; done)
      · simp only [Option.some.injEq] at e
        subst e
        exact ⟨fun _ h => h, fun _ h => h⟩
      · split at e <;> simp only [Option.some.injEq, reduceCtorEq] at e
        subst e
        exact ⟨fun _ h => insAs_l h, fun _ h => ens_r h⟩
    unfold AR.wp at h4
    rw [wps_eq] at h4
    cases hx : f η1 T with
    | nx η2 T2 => rw [hx] at h4; exact nxt _ _ (ens_l h4.1) h4.2
    | ct η2 T2 => rw [hx] at h4; exact nxt _ _ (ens_r h4.1) h4.2
    | bk η2 T2 => rw [hx] at h4; simp only; unfold AR.wp; rw [wps_nx]; exact ⟨rr.2 _ h4.1, h4.2⟩
    | rt d T2 => rw [hx] at h4; simp only; unfold AR.wp; rw [wps_rt]; exact ⟨rr.1 _ h4.1, h4.2⟩
    | ex c pl T2 => rw [hx] at h4; exact h4.elim
    | no => rw [hx] at h4; exact h4.elim
theorem forMany_out {a : A} {n : Nat} {as : AEn} {r : AR} (e : forMany body tg a n as = some r) : r.bk = [] ∧ r.ct = [] := by
  cases n <;> simp only [forMany, Option.some.injEq] at e
  · subst e; exact ⟨rfl, rfl⟩
  · split at e <;> try (cases e; done)
    split at e <;> try (cases e; done)
    split at e
    · simp only [Option.some.injEq] at e
      subst e; exact ⟨rfl, rfl⟩
    · split at e <;> simp only [Option.some.injEq, reduceCtorEq] at e
      subst e; exact ⟨rfl, rfl⟩
theorem forMany_ok {a : A} {n : Nat} {as : AEn} {r : AR} {ds : List D} {η : En} {T : Sto} (e : forMany body tg a n as = some r) (hl : ds.length ≤ n) (hd : ∀ x, x ∈ ds → a.ok x) (h : as.ok η) (hT : I T) : r.wp I (forL tg f ds η T) := by
  induction n generalizing as r ds η T with
  | zero =>
    simp only [forMany, Option.some.injEq] at e
    have : ds = [] := List.length_eq_zero_iff.mp (by omega)
    subst e this
    rw [for_n]
    exact ar_nx List.mem_cons_self h hT
  | succ n ih =>
    rw [forMany] at e
    split at e <;> try (cases e; done)
    rename_i r1 q
    split at e <;> try (cases e; done)
    rename_i m q2
    have mm : ∀ η2, Ens (as :: (r1.nx ++ r1.ct)) η2 → m.ok η2 := fun η2 h5 => by
      have h7 := mrgAll_ok h5
      rw [q2] at h7
      obtain ⟨m', mm, h8⟩ := h7
      rw [List.mem_singleton] at mm
      subst mm
      exact h8
    split at e
    · rename_i he
      have := AEn.eq_ok he
      subst this
      simp only [Option.some.injEq] at e
      subst e
      clear hl ih
      induction ds generalizing η T with
      | nil =>
        rw [for_n]
        exact ar_nx2 ⟨m, List.mem_cons_self, h⟩ hT
      | cons x ys ihd =>
        obtain ⟨η1, h3, h4⟩ := step_ok hb q (hd x List.mem_cons_self) h hT
        rw [for_c, h3]
        simp only
        unfold AR.wp at h4
        rw [wps_eq] at h4
        have hd2 := fun x m => hd x (List.mem_cons_of_mem _ m)
        cases hx : f η1 T with
        | nx η2 T2 => rw [hx] at h4; exact ihd hd2 h4.2 (mm _ (ens_r (l := [m]) (ens_l h4.1)))
        | ct η2 T2 => rw [hx] at h4; exact ihd hd2 h4.2 (mm _ (ens_r (l := [m]) (ens_r h4.1)))
        | bk η2 T2 => rw [hx] at h4; simp only; unfold AR.wp; rw [wps_nx]; exact ⟨ens_r (l := [m]) h4.1, h4.2⟩
        | rt d T2 => rw [hx] at h4; simp only; unfold AR.wp; rw [wps_rt]; exact h4
        | ex c pl T2 => rw [hx] at h4; exact h4.elim
        | no => rw [hx] at h4; exact h4.elim
    · split at e <;> simp only [Option.some.injEq, reduceCtorEq] at e
      rename_i s q3
      subst e
      have out := forMany_out hb q3
      have fin : ∀ (zs : List D) (η2 : En) (T2 : Sto), zs.length ≤ n → (∀ x, x ∈ zs → a.ok x) → m.ok η2 → I T2 → (AR.mk (s.nx ++ r1.bk) (insAs r1.rt s.rt) [] []).wp I (forL tg f zs η2 T2) := by
        intro zs η2 T2 k1 k2 k3 k4
        refine wps_step (ih q3 k1 k2 k3 k4) (fun _ _ h => ⟨ens_l h.1, h.2⟩) (fun _ _ h => ⟨insAs_r h.1, h.2⟩) (fun _ _ h => ?_) (fun _ _ h => ?_)
        · rw [out.1] at h; exact h
        · rw [out.2] at h; exact h
      cases ds with
      | nil => exact fin [] η T (by simp) (fun x m => by cases m) (mm _ ⟨as, List.mem_cons_self, h⟩) hT
      | cons x ys =>
        obtain ⟨η1, h3, h4⟩ := step_ok hb q (hd x List.mem_cons_self) h hT
        rw [for_c, h3]
        simp only
        unfold AR.wp at h4
        rw [wps_eq] at h4
        have hd2 := fun x m => hd x (List.mem_cons_of_mem _ m)
        have hl2 : ys.length ≤ n := by rw [List.length_cons] at hl; omega
        cases hx : f η1 T with
        | nx η2 T2 => rw [hx] at h4; exact fin _ _ _ hl2 hd2 (mm _ (ens_r (l := [as]) (ens_l h4.1))) h4.2
        | ct η2 T2 => rw [hx] at h4; exact fin _ _ _ hl2 hd2 (mm _ (ens_r (l := [as]) (ens_r h4.1))) h4.2
        | bk η2 T2 => rw [hx] at h4; simp only; unfold AR.wp; rw [wps_nx]; exact ⟨ens_r h4.1, h4.2⟩
        | rt d T2 => rw [hx] at h4; simp only; unfold AR.wp; rw [wps_rt]; exact ⟨insAs_l h4.1, h4.2⟩
        | ex c pl T2 => rw [hx] at h4; exact h4.elim
        | no => rw [hx] at h4; exact h4.elim
end
end Ev
namespace Ev
open PySem
def AR.tidy (r : AR) : AR := if r.nx.length = 2 ∨ 64 < r.nx.length then ⟨mrgAll r.nx, r.rt, r.bk, r.ct⟩ else r
theorem tidy_ok {I : Sto → Prop} {r : AR} {x : SR} (h : r.wp I x) : r.tidy.wp I x := by
  unfold AR.tidy
  split
  · exact wps_step h (fun _ _ h => ⟨mrgAll_ok h.1, h.2⟩) (fun _ _ h => h) (fun _ _ h => h) fun _ _ h => h
  · exact h
def nxR (η : AEn) : AR := ⟨[η], [], [], []⟩
def appA (x : A) : A → Option A
  | .lsx as => if as.length < 64 then some (.lsx (as ++ [x])) else if as.length < 1000000 then some (.lst ((unis as).uni x) (as.length + 1) (as.length + 1)) else none
  | .lst b lo hi => if hi < 1000000 then some (.lst (b.uni x) (lo + 1) (hi + 1)) else none
  | _ => none
theorem appA_ok {x a r : A} {xs : List D} {d : D} (e : appA x a = some r) (h : a.ok (.lst xs)) (hd : x.ok d) : xs.length < 1000000 ∧ r.ok (.lst (xs ++ [d])) := by
  unfold appA at e
  split at e <;> try (cases e; done)
  · rw [A.ok] at h
    obtain ⟨_, h1, h⟩ := h
    cases h1
    have hl := oks_len h
    split at e
    · simp only [Option.some.injEq] at e
      subst e
      rename_i q
      refine ⟨by omega, ?_⟩
      rw [A.ok]
      exact ⟨_, rfl, oks_app h (oks_cons hd oks_nil)⟩
    · split at e <;> simp only [Option.some.injEq, reduceCtorEq] at e
      subst e
      rename_i q
      refine ⟨by omega, ?_⟩
      rw [A.ok]
      refine ⟨_, rfl, by rw [List.length_append, List.length_singleton]; omega, by rw [List.length_append, List.length_singleton]; omega, fun y m => ?_⟩
      rcases List.mem_append.mp m with m | m
      · exact uni_l (unis_oks h y m)
      · rw [List.mem_singleton.mp m]; exact uni_r hd
  · rw [A.ok] at h
    obtain ⟨_, h1, h2, h3, h4⟩ := h
    cases h1
    split at e <;> simp only [Option.some.injEq, reduceCtorEq] at e
    subst e
    rename_i q
    refine ⟨by omega, ?_⟩
    rw [A.ok]
    refine ⟨_, rfl, by rw [List.length_append, List.length_singleton]; omega, by rw [List.length_append, List.length_singleton]; omega, fun y m => ?_⟩
    rcases List.mem_append.mp m with m | m
    · exact uni_l (h4 y m)
    · rw [List.mem_singleton.mp m]; exact uni_r hd
def setA (x : A) (a b : Int) : AI → Option AI
  | .ex as => if a = b then (match L2.ixN as.length a with
      | some j => some (.ex (as.set j x))
      | none => none) else if 0 ≤ a ∧ b < as.length then some (.many ((unis as).uni x) as.length as.length) else none
  | .many c lo hi => if 0 ≤ a ∧ b < lo then some (.many (c.uni x) lo hi) else none
theorem oks_set {as : List A} {ds : List D} {a : A} {d : D} (h : A.oks as ds) (hd : a.ok d) (j : Nat) : A.oks (as.set j a) (ds.set j d) := by
  induction as generalizing ds j with
  | nil => rw [A.oks] at h; rw [h]; exact oks_nil
  | cons b as ih =>
    rw [A.oks] at h
    obtain ⟨x, xs, rfl, h1, h2⟩ := h
    cases j with
    | zero => exact oks_cons hd h2
    | succ j => exact oks_cons h1 (ih h2 j)
theorem setA_ok {x : A} {a b i : Int} {it r : AI} {ds : List D} {d : D} (e : setA x a b it = some r) (h : it.ok ds) (hd : x.ok d) (h1 : a ≤ i) (h2 : i ≤ b) : ∃ j, L2.ixN ds.length i = some j ∧ r.ok (ds.set j d) := by
  have gen : ∀ {c : A} {lo hi : Nat}, 0 ≤ a → b < lo → (AI.many c lo hi).ok ds → ∃ j, L2.ixN ds.length i = some j ∧ (AI.many (c.uni x) lo hi).ok (ds.set j d) := by
    intro c lo hi ha hb ⟨h3, h4, h5⟩
    refine ⟨i.toNat, ?_, by rw [List.length_set]; exact h3, by rw [List.length_set]; exact h4, fun y m => ?_⟩
    · unfold L2.ixN
      rw [if_pos (by omega), if_pos (by omega)]
    · rcases List.mem_or_eq_of_mem_set m with m | rfl
      · exact uni_l (h5 y m)
      · exact uni_r hd
  cases it with
  | ex as =>
    have hl := oks_len h
    simp only [setA] at e
    split at e
    · have hi : i = a := by omega
      subst hi
      split at e <;> simp only [Option.some.injEq, reduceCtorEq] at e
      rename_i j q
      subst e
      exact ⟨j, by rw [hl]; exact q, oks_set h hd j⟩
    · split at e <;> simp only [Option.some.injEq, reduceCtorEq] at e
      rename_i q
      subst e
      exact gen q.1 q.2 ⟨by omega, by omega, unis_oks h⟩
  | many c lo hi =>
    simp only [setA] at e
    split at e <;> simp only [Option.some.injEq, reduceCtorEq] at e
    rename_i q
    subst e
    exact gen q.1 q.2 h
def popA : A → Option A
  | .lsx as => if as = [] then none else some (.lsx as.dropLast)
  | .lst a lo hi => if 1 ≤ lo then some (.lst a (lo - 1) (hi - 1)) else none
  | _ => none
def nilL : List A → Bool
  | [] => true
  | _ => false
def popA' : A → Option A
  | .lsx as => if nilL as = true then none else some (.lsx as.dropLast)
  | .lst a lo hi => if 1 ≤ lo then some (.lst a (lo - 1) (hi - 1)) else none
  | _ => none
theorem oks_dropLast {as : List A} {ds : List D} (h : A.oks as ds) : A.oks as.dropLast ds.dropLast := by
  rw [List.dropLast_eq_take, List.dropLast_eq_take, oks_len h]
  exact oks_take h _
theorem popA_ok {a r : A} {xs : List D} (e : popA' a = some r) (h : a.ok (.lst xs)) : xs ≠ [] ∧ r.ok (.lst xs.dropLast) := by
  unfold popA' at e
  split at e <;> try (cases e; done)
  · rw [A.ok] at h
    obtain ⟨_, h1, h⟩ := h
    cases h1
    have hl := oks_len h
    split at e <;> simp only [Option.some.injEq, reduceCtorEq] at e
    rename_i as q
    subst e
    refine ⟨fun h0 => ?_, by rw [A.ok]; exact ⟨_, rfl, oks_dropLast h⟩⟩
    rw [h0] at hl
    cases as with
    | nil => exact q rfl
    | cons b bs => simp at hl
  · rw [A.ok] at h
    obtain ⟨_, h1, h2, h3, h4⟩ := h
    cases h1
    split at e <;> simp only [Option.some.injEq, reduceCtorEq] at e
    subst e
    refine ⟨fun h0 => ?_, ?_⟩
    · rw [h0, List.length_nil] at h2; omega
    · rw [A.ok]
      exact ⟨_, rfl, by rw [List.length_dropLast]; omega, by rw [List.length_dropLast]; omega, fun x m => h4 x (List.dropLast_subset _ m)⟩
def slA (o : Bool) (w : AW) : Option AS := match o with
  | true => (match w with
    | .l true a => some (.own a)
    | _ => none)
  | false => (match w.st with
    | some a => some (.val a)
    | none => none)
theorem slA_ok {o : Bool} {aw : AW} {w : W} {s : AS} (e : slA o aw = some s) (h : aw.ok w) : ∃ t, slX o w = some t ∧ s.ok t := by
  cases o with
  | true =>
    simp only [slA] at e
    split at e <;> simp only [Option.some.injEq, reduceCtorEq] at e
    subst e
    obtain ⟨xs, rfl, h⟩ := h
    exact ⟨_, rfl, xs, rfl, h⟩
  | false =>
    simp only [slA] at e
    split at e <;> simp only [Option.some.injEq, reduceCtorEq] at e
    rename_i q
    subst e
    obtain ⟨d, h1, h2⟩ := awst_ok q h
    exact ⟨.val d, by simp only [slX, h1], d, rfl, h2⟩
section
variable (k : Nat → List A → Option A)
mutual
def aS : S → AEn → Option AR
  | .asg tg e, η => match aE k e η with
    | some w => (match w.st with
      | some a => eachR (fun x => match aAsg tg x η with
        | some η1 => some (nxR η1)
        | none => none) a.alts
      | none => none)
    | none => none
  | .own i e, η => match aE k e η with
    | some (.l true a) => if i < η.length then some (nxR (η.set i (.own a))) else none
    | _ => none
  | .frz i, η => match η.get i with
    | .own a => some (nxR (η.set i (.val a)))
    | _ => none
  | .ret e, η => match aE k e η with
    | some w => (match w.st with
      | some a => some ⟨[], a.alts, [], []⟩
      | none => none)
    | none => none
  | .retN, _ => some ⟨[], [.non], [], []⟩
  | .ife t a b, η => match aE k t η with
    | some w => (match bOf w with
      | some (some true) => aB a η
      | some (some false) => aB b η
      | some none => (match (match rf t true η with
          | some η1 => aB a η1
          | none => some .nil) with
        | some r => (match (match rf t false η with
            | some η2 => aB b η2
            | none => some .nil) with
          | some s => some (r.add s).tidy
          | none => none)
        | none => none)
      | none => none)
    | none => none
  | .for tg it b, η => match aI k it η with
    | some (.ex as) => forEx (fun η => aB b η) tg as η
    | some (.many a _ hi) => forMany (fun η => aB b η) tg a hi η
    | none => none
  | .brk, η => some ⟨[], [], [η], []⟩
  | .cnt, η => some ⟨[], [], [], [η]⟩
  | .pass, η => some (nxR η)
  | .exp e, η => match aE k e η with
    | some _ => some (nxR η)
    | none => none
  | .par2 i oi a j oj b, η => match aE k a η with
    | some w => (match slA oi w with
      | some s => (match aE k b η with
        | some w2 => (match slA oj w2 with
          | some s2 => if i < η.length ∧ j < η.length then some (nxR ((η.set i s).set j s2)) else none
          | none => none)
        | none => none)
      | none => none)
    | none => none
  | .par3 i oi a j oj b l ol d, η => match aE k a η with
    | some w => (match slA oi w with
      | some s => (match aE k b η with
        | some w2 => (match slA oj w2 with
          | some s2 => (match aE k d η with
            | some w3 => (match slA ol w3 with
              | some s3 => if i < η.length ∧ j < η.length ∧ l < η.length then some (nxR (((η.set i s).set j s2).set l s3)) else none
              | none => none)
            | none => none)
          | none => none)
        | none => none)
      | none => none)
    | none => none
  | .app i e, η => match η.get i with
    | .own a => (match aE k e η with
      | some w => (match w.st with
        | some x => (match mapA (appA x) a with
          | some r => some (nxR (η.set i (.own r)))
          | none => none)
        | none => none)
      | none => none)
    | _ => none
  | .ext i e, η => match η.get i with
    | .own a => (match aE k e η with
      | some w => if w.a.isL = true then (match w.a.items with
        | some j => (match mapA (fun a => match a.items with
            | some it => if it.mx + j.mx ≤ 1000000 then some (aCat it j).lst else none
            | none => none) a with
          | some r => some (nxR (η.set i (.own r)))
          | none => none)
        | none => none) else none
      | none => none)
    | _ => none
  | .setO i ix e, η => match η.get i with
    | .own a => (match aE k e η with
      | some w => (match w.st with
        | some x => (match aE k ix η with
          | some (.v (.int c d _)) => (match mapA (fun a => match a.items with
              | some it => (match setA x c d it with
                | some r => some r.lst
                | none => none)
              | none => none) a with
            | some r => some (nxR (η.set i (.own r)))
            | none => none)
          | _ => none)
        | none => none)
      | none => none)
    | _ => none
  | .popO i, η => match η.get i with
    | .own a => (match mapA popA' a with
      | some r => some (nxR (η.set i (.own r)))
      | none => none)
    | _ => none
  | _, _ => none
def aB : List S → AEn → Option AR
  | [], η => some (nxR η)
  | s :: ss, η => match aS s η with
    | some r => (match eachR (fun η => aB ss η) r.tidy.nx with
      | some q => some ⟨q.nx, insAs r.rt q.rt, r.bk ++ q.bk, r.ct ++ q.ct⟩
      | none => none)
    | none => none
end
end
section
variable {c : Call} {k : Nat → List A → Option A} {I : Sto → Prop}
variable (hk : ∀ f as a ds T, k f as = some a → A.oks as ds → I T → (c f ds T).wp fun d T' => a.ok d ∧ I T')
theorem st_wp {α : Type} {r : Re α} {f : α → Sto → SR} {q : AR} {P : α → Sto → Prop} (h : r.wp P) (g : ∀ a T, P a T → q.wp I (f a T)) : q.wp I (r.st f) := by
  unfold AR.wp at g ⊢
  rw [wps_st]
  exact wp_step h g
theorem own_look {as : AEn} {η : En} {i : Nat} {a : A} (h : as.ok η) (q : as.get i = .own a) : ∃ xs, η.own? i = some xs ∧ a.ok (.lst xs) := by
  have hg := aen_get (i := i) h
  rw [q] at hg
  obtain ⟨xs, h1, h2⟩ := hg
  exact ⟨xs, by unfold En.own?; rw [h1], h2⟩
include hk in
mutual
theorem aS_ok : ∀ (s : S) {as : AEn} {η : En} {r : AR} {T : Sto}, aS k s as = some r → as.ok η → I T → r.wp I (exS c s η T)
  | .asg tg e, as, η, r, T, e1, h, hT => by
    rw [aS] at e1
    split at e1 <;> try (cases e1; done)
    rename_i q1
    split at e1 <;> try (cases e1; done)
    rename_i a q2
    rw [s_asg]
    refine st_wp (aE_ok hk e q1 h hT) fun w T1 ⟨h1, h2⟩ => ?_
    obtain ⟨d, h3, h4⟩ := awst_ok q2 h1
    rw [h3]
    have h5 := alts_ok h4
    rw [oko_mem] at h5
    obtain ⟨a1, m, h6⟩ := h5
    obtain ⟨s, q, g⟩ := eachR_ok (I := I) e1 m
    split at q <;> simp only [Option.some.injEq, reduceCtorEq] at q
    rename_i as1 q3
    subst q
    obtain ⟨η1, g1, g2⟩ := aAsg_ok tg q3 h6 h
    simp only [g1]
    exact g _ (ar_nx List.mem_cons_self g2 h2)
  | .own i e, as, η, r, T, e1, h, hT => by
    rw [aS] at e1
    split at e1 <;> try (cases e1; done)
    rename_i a q1
    split at e1 <;> simp only [Option.some.injEq, reduceCtorEq] at e1
    rename_i hi
    subst e1
    rw [s_own]
    refine st_wp (aE_ok hk e q1 h hT) fun w T1 ⟨h1, h2⟩ => ?_
    obtain ⟨xs, rfl, h1⟩ := h1
    simp only
    rw [if_pos (by rw [aen_len h]; exact hi)]
    exact ar_nx List.mem_cons_self (aen_set h ⟨xs, rfl, h1⟩) h2
  | .frz i, as, η, r, T, e1, h, hT => by
    rw [aS] at e1
    split at e1 <;> simp only [Option.some.injEq, reduceCtorEq] at e1
    rename_i a q1
    subst e1
    obtain ⟨xs, h1, h2⟩ := own_look h q1
    rw [s_frz, h1]
    exact ar_nx List.mem_cons_self (aen_set h ⟨_, rfl, h2⟩) hT
  | .ret e, as, η, r, T, e1, h, hT => by
    rw [aS] at e1
    split at e1 <;> try (cases e1; done)
    rename_i q1
    split at e1 <;> simp only [Option.some.injEq, reduceCtorEq] at e1
    rename_i a q2
    subst e1
    rw [s_ret]
    refine st_wp (aE_ok hk e q1 h hT) fun w T1 ⟨h1, h2⟩ => ?_
    obtain ⟨d, h3, h4⟩ := awst_ok q2 h1
    rw [h3]
    unfold AR.wp
    rw [wps_rt]
    exact ⟨alts_ok h4, h2⟩
  | .retN, as, η, r, T, e1, h, hT => by
    simp only [aS, Option.some.injEq] at e1
    subst e1
    rw [s_retN]
    unfold AR.wp
    rw [wps_rt, oko_mem]
    exact ⟨⟨_, List.mem_cons_self, by rw [A.ok]⟩, hT⟩
  | .ife t a b, as, η, r, T, e1, h, hT => by
    rw [aS] at e1
    split at e1 <;> try (cases e1; done)
    rename_i q1
    rw [s_if]
    obtain ⟨w, T1, hw, h1, h2⟩ := wp_ex (aE_ok hk t q1 h hT)
    rw [hw, Re.st_ok]
    split at e1 <;> try (cases e1; done)
    · rename_i q2
      obtain ⟨v, rfl, h3⟩ := bOf_ok q2 h1
      simp at h3
      subst h3
      simp only [W.b?_bl, if_true]
      exact aB_ok a e1 h h2
    · rename_i q2
      obtain ⟨v, rfl, h3⟩ := bOf_ok q2 h1
      simp at h3
      subst h3
      simp only [W.b?_bl, Bool.false_eq_true, if_false]
      exact aB_ok b e1 h h2
    · rename_i q2
      obtain ⟨v, rfl, h3⟩ := bOf_ok q2 h1
      obtain ⟨as1, k1, k2⟩ := rf_ok (c := c) _ t (Nat.le_refl _) h hw
      split at e1 <;> try (cases e1; done)
      rename_i r1 q3
      split at e1 <;> simp only [Option.some.injEq, reduceCtorEq] at e1
      rename_i s1 q4
      subst e1
      cases v with
      | true =>
        simp only [W.b?_bl, if_true]
        rw [k1] at q3
        exact tidy_ok (ar_l (aB_ok a q3 k2 h2))
      | false =>
        simp only [W.b?_bl, Bool.false_eq_true, if_false]
        rw [k1] at q4
        exact tidy_ok (ar_r (aB_ok b q4 k2 h2))
  | .for tg it b, as, η, r, T, e1, h, hT => by
    rw [aS] at e1
    rw [s_for2]
    have hb : ∀ as r η T, aB k b as = some r → as.ok η → I T → r.wp I (exB c b η T) := fun as r η T e h hT => aB_ok b e h hT
    split at e1 <;> try (cases e1; done)
    · rename_i q1
      refine st_wp (aI_ok hk it q1 h hT) fun ds T1 ⟨h1, h2⟩ => ?_
      exact forEx_ok hb e1 h1 h h2
    · rename_i q1
      refine st_wp (aI_ok hk it q1 h hT) fun ds T1 ⟨h1, h2⟩ => ?_
      exact forMany_ok hb e1 h1.2.1 h1.2.2 h h2
  | .whl t b, as, η, r, T, e1, h, hT => by simp [aS] at e1
  | .brk, as, η, r, T, e1, h, hT => by
    simp only [aS, Option.some.injEq] at e1
    subst e1
    rw [s_brk]
    unfold AR.wp
    rw [wps_bk]
    exact ⟨⟨as, List.mem_cons_self, h⟩, hT⟩
  | .cnt, as, η, r, T, e1, h, hT => by
    simp only [aS, Option.some.injEq] at e1
    subst e1
    rw [s_cnt]
    unfold AR.wp
    rw [wps_ct]
    exact ⟨⟨as, List.mem_cons_self, h⟩, hT⟩
  | .pass, as, η, r, T, e1, h, hT => by
    simp only [aS, Option.some.injEq] at e1
    subst e1
    rw [exS]
    exact ar_nx List.mem_cons_self h hT
  | .exp e, as, η, r, T, e1, h, hT => by
    rw [aS] at e1
    split at e1 <;> simp only [Option.some.injEq, reduceCtorEq] at e1
    rename_i q1
    subst e1
    rw [s_exp]
    refine st_wp (aE_ok hk e q1 h hT) fun w T1 ⟨h1, h2⟩ => ?_
    exact ar_nx List.mem_cons_self h h2
  | .par2 i oi a j oj b, as, η, r, T, e1, h, hT => by
    rw [aS] at e1
    split at e1 <;> try (cases e1; done)
    rename_i q1
    split at e1 <;> try (cases e1; done)
    rename_i q2
    split at e1 <;> try (cases e1; done)
    rename_i q3
    split at e1 <;> try (cases e1; done)
    rename_i q4
    split at e1 <;> simp only [Option.some.injEq, reduceCtorEq] at e1
    rename_i hi
    subst e1
    rw [s_par2]
    refine st_wp (aE_ok hk a q1 h hT) fun w T1 ⟨h1, h2⟩ => ?_
    obtain ⟨s, h3, h4⟩ := slA_ok q2 h1
    rw [h3]
    refine st_wp (aE_ok hk b q3 h h2) fun w T2 ⟨h5, h6⟩ => ?_
    obtain ⟨s2, h7, h8⟩ := slA_ok q4 h5
    rw [h7]
    simp only
    rw [if_pos (by rw [aen_len h]; exact hi)]
    exact ar_nx List.mem_cons_self (aen_set (aen_set h h4) h8) h6
  | .par3 i oi a j oj b l ol d, as, η, r, T, e1, h, hT => by
    rw [aS] at e1
    split at e1 <;> try (cases e1; done)
    rename_i q1
    split at e1 <;> try (cases e1; done)
    rename_i q2
    split at e1 <;> try (cases e1; done)
    rename_i q3
    split at e1 <;> try (cases e1; done)
    rename_i q4
    split at e1 <;> try (cases e1; done)
    rename_i q5
    split at e1 <;> try (cases e1; done)
    rename_i q6
    split at e1 <;> simp only [Option.some.injEq, reduceCtorEq] at e1
    rename_i hi
    subst e1
    rw [s_par3]
    refine st_wp (aE_ok hk a q1 h hT) fun w T1 ⟨h1, h2⟩ => ?_
    obtain ⟨s, h3, h4⟩ := slA_ok q2 h1
    rw [h3]
    refine st_wp (aE_ok hk b q3 h h2) fun w T2 ⟨h5, h6⟩ => ?_
    obtain ⟨s2, h7, h8⟩ := slA_ok q4 h5
    rw [h7]
    refine st_wp (aE_ok hk d q5 h h6) fun w T3 ⟨h9, h10⟩ => ?_
    obtain ⟨s3, h11, h12⟩ := slA_ok q6 h9
    rw [h11]
    simp only
    rw [if_pos (by rw [aen_len h]; exact hi)]
    exact ar_nx List.mem_cons_self (aen_set (aen_set (aen_set h h4) h8) h12) h10
  | .app i e, as, η, r, T, e1, h, hT => by
    rw [aS] at e1
    split at e1 <;> try (cases e1; done)
    rename_i a q0
    split at e1 <;> try (cases e1; done)
    rename_i q1
    split at e1 <;> try (cases e1; done)
    rename_i x q2
    split at e1 <;> simp only [Option.some.injEq, reduceCtorEq] at e1
    rename_i q3
    subst e1
    obtain ⟨xs, h1, h2⟩ := own_look h q0
    rw [s_app, h1]
    refine st_wp (aE_ok hk e q1 h hT) fun w T1 ⟨h3, h4⟩ => ?_
    obtain ⟨d, h5, h6⟩ := awst_ok q2 h3
    obtain ⟨a1, x1, k1, k2, k3⟩ := mapA_ok q3 h2
    obtain ⟨h7, h8⟩ := appA_ok k2 k1 h6
    rw [h5]
    simp only
    rw [if_pos (by show xs.length < 1000000; exact h7)]
    exact ar_nx List.mem_cons_self (aen_set h ⟨_, rfl, k3 _ h8⟩) h4
  | .ext i e, as, η, r, T, e1, h, hT => by
    rw [aS] at e1
    split at e1 <;> try (cases e1; done)
    rename_i a q0
    split at e1 <;> try (cases e1; done)
    rename_i q1
    split at e1 <;> try (cases e1; done)
    rename_i hL
    split at e1 <;> try (cases e1; done)
    rename_i j q2
    split at e1 <;> simp only [Option.some.injEq, reduceCtorEq] at e1
    rename_i q3
    subst e1
    obtain ⟨xs, h1, h2⟩ := own_look h q0
    rw [exS, h1]
    refine st_wp (aE_ok hk e q1 h hT) fun w T1 ⟨h3, h4⟩ => ?_
    obtain ⟨ys, g1, g2, _⟩ := aw_isL hL h3
    have g3 := items_L q2 g2
    obtain ⟨a1, x1, k1, k2, k3⟩ := mapA_ok q3 h2
    split at k2 <;> try (cases k2; done)
    rename_i it q4
    split at k2 <;> simp only [Option.some.injEq, reduceCtorEq] at k2
    rename_i hs
    subst k2
    have g4 := items_L q4 k1
    have l1 := aimx_ok g3
    have l2 := aimx_ok g4
    rw [g1]
    simp only
    rw [if_pos (by show xs.length + ys.length ≤ 1000000; omega)]
    exact ar_nx List.mem_cons_self (aen_set h ⟨_, rfl, k3 _ (ailst_ok (aCat_ok g4 g3))⟩) h4
  | .setO i ix e, as, η, r, T, e1, h, hT => by
    rw [aS] at e1
    split at e1 <;> try (cases e1; done)
    rename_i a q0
    split at e1 <;> try (cases e1; done)
    rename_i q1
    split at e1 <;> try (cases e1; done)
    rename_i x q2
    split at e1 <;> try (cases e1; done)
    rename_i cc dd oo q3
    split at e1 <;> simp only [Option.some.injEq, reduceCtorEq] at e1
    rename_i q4
    subst e1
    obtain ⟨xs, h1, h2⟩ := own_look h q0
    rw [exS, h1]
    refine st_wp (aE_ok hk e q1 h hT) fun w T1 ⟨h3, h4⟩ => ?_
    obtain ⟨d, h5, h6⟩ := awst_ok q2 h3
    rw [h5]
    refine st_wp (aE_ok hk ix q3 h h4) fun u T2 ⟨h7, h8⟩ => ?_
    obtain ⟨z, rfl, h9, h10, _⟩ := int_aw rfl h7
    obtain ⟨a1, x1, k1, k2, k3⟩ := mapA_ok q4 h2
    split at k2 <;> try (cases k2; done)
    rename_i it q5
    split at k2 <;> simp only [Option.some.injEq, reduceCtorEq] at k2
    rename_i rr q6
    subst k2
    obtain ⟨j, h11, h12⟩ := setA_ok q6 (items_L q5 k1) h6 h9 h10
    simp only [W.i?_int, h11]
    exact ar_nx List.mem_cons_self (aen_set h ⟨_, rfl, k3 _ (ailst_ok h12)⟩) h8
  | .popO i, as, η, r, T, e1, h, hT => by
    rw [aS] at e1
    split at e1 <;> try (cases e1; done)
    rename_i a q0
    split at e1 <;> simp only [Option.some.injEq, reduceCtorEq] at e1
    rename_i q3
    subst e1
    obtain ⟨xs, h1, h2⟩ := own_look h q0
    rw [exS, h1]
    obtain ⟨a1, x1, k1, k2, k3⟩ := mapA_ok q3 h2
    obtain ⟨h7, h8⟩ := popA_ok k2 k1
    simp only
    rw [if_neg h7]
    exact ar_nx List.mem_cons_self (aen_set h ⟨_, rfl, k3 _ h8⟩) hT
  | .setL _ _ _, as, η, r, T, e1, h, hT => by simp [aS] at e1
  | .raise _ _ _, as, η, r, T, e1, h, hT => by simp [aS] at e1
  | .try _ _ _ _ _, as, η, r, T, e1, h, hT => by simp [aS] at e1
theorem aB_ok : ∀ (ss : List S) {as : AEn} {η : En} {r : AR} {T : Sto}, aB k ss as = some r → as.ok η → I T → r.wp I (exB c ss η T)
  | [], as, η, r, T, e, h, hT => by
    simp only [aB, Option.some.injEq] at e
    subst e
    rw [exB_n]
    exact ar_nx List.mem_cons_self h hT
  | s :: ss, as, η, r, T, e, h, hT => by
    rw [aB] at e
    split at e <;> try (cases e; done)
    rename_i r1 q1
    split at e <;> simp only [Option.some.injEq, reduceCtorEq] at e
    rename_i q q2
    subst e
    have h0 := aS_ok s q1 h hT
    have h1 := tidy_ok h0
    rw [exB_c]
    unfold AR.wp at h0 h1 ⊢
    rw [wps_eq] at h0 h1
    cases hx : exS c s η T with
    | nx η1 T1 =>
      rw [hx] at h1
      obtain ⟨⟨a1, m, h2⟩, h3⟩ := h1
      obtain ⟨u, h4, h5⟩ := eachR_ok (I := I) q2 m
      rw [SR.bind_nx]
      refine wps_step (h5 _ (aB_ok ss h4 h2 h3)) (fun _ _ h => h) (fun _ _ h => ⟨insAs_r h.1, h.2⟩) (fun _ _ h => ⟨ens_r h.1, h.2⟩) fun _ _ h => ⟨ens_r h.1, h.2⟩
    | rt d T1 => rw [hx] at h0; rw [SR.bind_rt, wps_rt]; exact ⟨insAs_l h0.1, h0.2⟩
    | bk η1 T1 => rw [hx] at h0; rw [SR.bind_bk, wps_bk]; exact ⟨ens_l h0.1, h0.2⟩
    | ct η1 T1 => rw [hx] at h0; rw [SR.bind_ct, wps_ct]; exact ⟨ens_l h0.1, h0.2⟩
    | ex c pl T1 => rw [hx] at h0; exact h0.elim
    | no => rw [hx] at h0; exact h0.elim
end
end
/-! defs -/
def aStart : Nat → List A → AEn
  | n, [] => List.replicate n .no
  | n, a :: as => .val a :: aStart (n - 1) as
theorem aStart_ok {n : Nat} {as : List A} {ds : List D} (h : A.oks as ds) : (aStart n as).ok (En.start n ds) := by
  have e : ∀ n, AEn.ok (List.replicate n .no) (List.replicate n .no) := by
    intro n
    induction n with
    | zero => rfl
    | succ n ih => exact ⟨_, _, rfl, rfl, ih⟩
  induction as generalizing n ds with
  | nil => rw [A.oks] at h; rw [h]; exact e n
  | cons a as ih =>
    rw [A.oks] at h
    obtain ⟨x, xs, rfl, h1, h2⟩ := h
    refine ⟨.val x, _, rfl, ⟨x, rfl, h1⟩, ?_⟩
    have := ih (n := n - 1) h2
    unfold En.start at this
    have e2 : n - 1 - xs.length = n - (x :: xs).length := by rw [List.length_cons]; omega
    rw [e2] at this
    exact this
/-- all ways to take one of each -/
def expL : List A → List (List A)
  | [] => [[]]
  | a :: as => a.alts.flatMap fun x => (expL as).map (x :: ·)
theorem expL_ok {as : List A} {ds : List D} (h : A.oks as ds) : ∃ bs, bs ∈ expL as ∧ A.oks bs ds := by
  induction as generalizing ds with
  | nil => exact ⟨[], List.mem_cons_self, h⟩
  | cons a as ih =>
    rw [A.oks] at h
    obtain ⟨x, xs, rfl, h1, h2⟩ := h
    obtain ⟨bs, h3, h4⟩ := ih h2
    have h5 := alts_ok h1
    rw [oko_mem] at h5
    obtain ⟨b, m, h6⟩ := h5
    exact ⟨b :: bs, List.mem_flatMap.mpr ⟨b, m, List.mem_map.mpr ⟨bs, h3, rfl⟩⟩, oks_cons h6 h4⟩
def eachA {α : Type} (f : α → Option A) : List α → Option (List A)
  | [] => some []
  | a :: as => match f a with
    | some r => (match eachA f as with
      | some s => some (insAs r.alts s)
      | none => none)
    | none => none
theorem eachA_ok {α : Type} {f : α → Option A} {as : List α} {a : α} {r : List A} (e : eachA f as = some r) (m : a ∈ as) : ∃ s, f a = some s ∧ ∀ x, s.ok x → A.oko r x := by
  induction as generalizing r with
  | nil => cases m
  | cons b as ih =>
    rw [eachA] at e
    split at e <;> try (cases e; done)
    rename_i s q
    split at e <;> simp only [Option.some.injEq, reduceCtorEq] at e
    rename_i t q2
    subst e
    cases m with
    | head => exact ⟨s, q, fun x h => insAs_l (alts_ok h)⟩
    | tail _ m =>
      obtain ⟨u, h1, h2⟩ := ih q2 m
      exact ⟨u, h1, fun x h => insAs_r (h2 x h)⟩
/-- how a block ends, as a def's answer -/
def endA (r : AR) : Option A := match r.bk, r.ct with
  | [], [] => some (A.ofs (match r.nx with
    | [] => r.rt
    | _ => insAs r.rt [.non]))
  | _, _ => none
theorem endA_ok {I : Sto → Prop} {r : AR} {a : A} {x : SR} (e : endA r = some a) (h : r.wp I x) : (ended x).wp fun d T => a.ok d ∧ I T := by
  unfold endA at e
  split at e <;> simp only [Option.some.injEq, reduceCtorEq] at e
  rename_i q1 q2
  subst e
  rw [wp_ended]
  unfold AR.wp at h
  refine wps_step h (fun η T h => ?_) (fun d T h => ?_) (fun _ _ h => ?_) (fun _ _ h => ?_)
  · obtain ⟨⟨b, m, _⟩, hT⟩ := h
    refine ⟨ofs_ok ?_, hT⟩
    split
    · rename_i q
      rw [q] at m
      cases m
    · refine insAs_r ?_
      rw [oko_mem]
      exact ⟨_, List.mem_cons_self, by rw [A.ok]⟩
  · refine ⟨ofs_ok ?_, h.2⟩
    split
    · exact h.1
    · exact insAs_l h.1
  · rw [q1] at h; exact ens_nil h.1
  · rw [q2] at h; exact ens_nil h.1
/-- what is known of a def: from which level on, what comes of what -/
structure Ct where
  f : Nat
  req : Nat
  tf : List A → Option A
def Ct.ok (P : Nat → Option Fd) (I : Sto → Prop) (c : Ct) : Prop := ∀ n, c.req ≤ n → ∀ as a ds T, c.tf as = some a → A.oks as ds → I T → (run P n c.f ds T).wp fun d T' => a.ok d ∧ I T'
def ctGet (n f : Nat) (as : List A) : List Ct → Option A
  | [] => none
  | c :: cs => if c.f = f ∧ c.req ≤ n then (match c.tf as with
    | some a => some a
    | none => ctGet n f as cs) else ctGet n f as cs
def aRun (P : Nat → Option Fd) (cts : List Ct) : Nat → Nat → List A → Option A
  | 0, _, _ => none
  | n + 1, f, as => match eachA (fun as => match ctGet (n + 1) f as cts with
      | some a => some a
      | none => (match P f with
        | some fd => if as.length = fd.ps.length then (match aB (aRun P cts n) fd.body (aStart fd.N.length as) with
          | some r => endA r
          | none => none) else none
        | none => none)) (expL as) with
    | some r => some (A.ofs r)
    | none => none
theorem ctGet_ok {P : Nat → Option Fd} {I : Sto → Prop} {cts : List Ct} (hc : ∀ c, c ∈ cts → c.ok P I) {n f : Nat} {as : List A} {a : A} {ds : List D} {T : Sto} (e : ctGet n f as cts = some a) (h : A.oks as ds) (hT : I T) : (run P n f ds T).wp fun d T' => a.ok d ∧ I T' := by
  induction cts with
  | nil => cases e
  | cons c cs ih =>
    have ih := ih fun c m => hc c (List.mem_cons_of_mem _ m)
    rw [ctGet] at e
    split at e
    · rename_i q
      split at e
      · rename_i b q2
        simp only [Option.some.injEq] at e
        subst e
        have := hc c List.mem_cons_self n q.2 _ _ _ _ q2 h hT
        rw [q.1] at this
        exact this
      · exact ih e
    · exact ih e
theorem aRun_ok {P : Nat → Option Fd} {I : Sto → Prop} {cts : List Ct} (hc : ∀ c, c ∈ cts → c.ok P I) : ∀ (n f : Nat) (as : List A) (a : A) (ds : List D) (T : Sto), aRun P cts n f as = some a → A.oks as ds → I T → (run P n f ds T).wp fun d T' => a.ok d ∧ I T' := by
  intro n
  induction n with
  | zero => intro f as a ds T e; cases e
  | succ n ih =>
    intro f as a ds T e h hT
    rw [aRun] at e
    split at e <;> simp only [Option.some.injEq, reduceCtorEq] at e
    rename_i r q
    subst e
    obtain ⟨bs, m, h1⟩ := expL_ok h
    obtain ⟨s, q2, g⟩ := eachA_ok q m
    refine wp_step (P := fun d T' => s.ok d ∧ I T') ?_ fun d T' h => ⟨ofs_ok (g d h.1), h.2⟩
    split at q2
    · rename_i q3
      simp only [Option.some.injEq] at q2
      subst q2
      exact ctGet_ok hc q3 h1 hT
    · split at q2 <;> try (cases q2; done)
      rename_i fd q4
      split at q2 <;> try (cases q2; done)
      rename_i hl
      split at q2 <;> try (cases q2; done)
      rename_i ar q5
      rw [Ev.run, q4]
      simp only
      rw [runF_ok (by rw [oks_len h1]; exact hl)]
      exact endA_ok q2 (aB_ok ih fd.body q5 (aStart_ok h1) hT)
end Ev
namespace Ev
open PySem
/-- whether what a may be, b may be, too -/
def A.le : Nat → A → A → Bool
  | 0, _, _ => false
  | n + 1, a, b => match a, b with
    | _, .any => true
    | .or as, b => as.all fun a => A.le n a b
    | a, .or bs => bs.any fun b => A.le n a b
    | .int a b o, .int c d q => decide (c ≤ a) && decide (b ≤ d) && (o || !q)
    | .bl a, .bl b => decide (b = none) || decide (a = b)
    | .str xs, .str ys => xs.all fun x => ys.contains x
    | .non, .non => true
    | .bag, .bag => true
    | .tpl a l h, .tpl b m g => A.le n a b && decide (m ≤ l) && decide (h ≤ g)
    | .lst a l h, .lst b m g => A.le n a b && decide (m ≤ l) && decide (h ≤ g)
    | .lsx as, .lst b m g => as.all (fun a => A.le n a b) && decide (m ≤ as.length) && decide (as.length ≤ g)
    | .tup as, .tpl b m g => as.all (fun a => A.le n a b) && decide (m ≤ as.length) && decide (as.length ≤ g)
    | .lsx as, .lsx bs => decide (as.length = bs.length) && (as.zip bs).all fun p => A.le n p.1 p.2
    | .tup as, .tup bs => decide (as.length = bs.length) && (as.zip bs).all fun p => A.le n p.1 p.2
    | a, .num k l h z => (match a.num? with
      | some (k', l', h', z') => decide (k' ≤ k) && decide (l ≤ l') && decide (h' ≤ h) && (z' || !z)
      | none => false)
    | _, _ => false
theorem le_oks {n : Nat} (ih : ∀ {a b : A} {d : D}, A.le n a b = true → a.ok d → b.ok d) : ∀ {as bs : List A} {ds : List D}, as.length = bs.length → (as.zip bs).all (fun p => A.le n p.1 p.2) = true → A.oks as ds → A.oks bs ds := by
  intro as
  induction as with
  | nil =>
    intro bs ds hl _ h
    cases bs with
    | nil => exact h
    | cons b bs => simp at hl
  | cons a as ih2 =>
    intro bs ds hl e h
    cases bs with
    | nil => simp at hl
    | cons b bs =>
      rw [A.oks] at h
      obtain ⟨x, xs, rfl, h1, h2⟩ := h
      rw [List.zip_cons_cons, List.all_cons, Bool.and_eq_true] at e
      exact oks_cons (ih e.1 h1) (ih2 (by simpa using hl) e.2 h2)
theorem le_ok : ∀ {n : Nat} {a b : A} {d : D}, A.le n a b = true → a.ok d → b.ok d := by
  intro n
  induction n with
  | zero => intro a b d e; cases e
  | succ n ih =>
    intro a b d e h
    unfold A.le at e
    split at e
    · rw [A.ok]; trivial
    · rw [A.ok, oko_mem] at h
      obtain ⟨a, m, h⟩ := h
      exact ih (List.all_eq_true.mp e a m) h
    · rw [List.any_eq_true] at e
      obtain ⟨b, m, e⟩ := e
      rw [A.ok, oko_mem]
      exact ⟨b, m, ih e h⟩
    · simp only [Bool.and_eq_true, Bool.or_eq_true, Bool.not_eq_true', decide_eq_true_eq] at e
      obtain ⟨i, rfl, h1, h2, h3⟩ := aok_int.mp h
      refine aok_int.mpr ⟨i, rfl, by omega, by omega, fun hq => ?_⟩
      rcases e.2 with e | e
      · exact h3 e
      · rw [e] at hq; cases hq
    · simp only [Bool.or_eq_true, decide_eq_true_eq] at e
      obtain ⟨r, rfl, h1⟩ := aok_bl.mp h
      refine aok_bl.mpr ⟨r, rfl, ?_⟩
      rcases e with e | e
      · exact .inl e
      · rw [← e]; exact h1
    · rw [A.ok] at h ⊢
      obtain ⟨s, rfl, m⟩ := h
      have := List.all_eq_true.mp e s m
      exact ⟨s, rfl, by simpa using this⟩
    · exact h
    · exact h
    · simp only [Bool.and_eq_true, decide_eq_true_eq] at e
      simp only [A.ok] at h ⊢
      obtain ⟨ds, rfl, h1, h2, h3⟩ := h
      exact ⟨ds, rfl, by omega, by omega, fun x m => ih e.1.1 (h3 x m)⟩
    · simp only [Bool.and_eq_true, decide_eq_true_eq] at e
      simp only [A.ok] at h ⊢
      obtain ⟨ds, rfl, h1, h2, h3⟩ := h
      exact ⟨ds, rfl, by omega, by omega, fun x m => ih e.1.1 (h3 x m)⟩
    · simp only [Bool.and_eq_true, decide_eq_true_eq] at e
      simp only [A.ok] at h ⊢
      obtain ⟨ds, rfl, h1⟩ := h
      have hl := oks_len h1
      refine ⟨ds, rfl, by omega, by omega, fun x m => ?_⟩
      obtain ⟨a, m2, h2⟩ := oks_mem h1 m
      exact ih (List.all_eq_true.mp e.1.1 a m2) h2
    · simp only [Bool.and_eq_true, decide_eq_true_eq] at e
      simp only [A.ok] at h ⊢
      obtain ⟨ds, rfl, h1⟩ := h
      have hl := oks_len h1
      refine ⟨ds, rfl, by omega, by omega, fun x m => ?_⟩
      obtain ⟨a, m2, h2⟩ := oks_mem h1 m
      exact ih (List.all_eq_true.mp e.1.1 a m2) h2
    · simp only [Bool.and_eq_true, decide_eq_true_eq] at e
      simp only [A.ok] at h ⊢
      obtain ⟨ds, rfl, h1⟩ := h
      exact ⟨ds, rfl, le_oks ih e.1 e.2 h1⟩
    · simp only [Bool.and_eq_true, decide_eq_true_eq] at e
      simp only [A.ok] at h ⊢
      obtain ⟨ds, rfl, h1⟩ := h
      exact ⟨ds, rfl, le_oks ih e.1 e.2 h1⟩
    · split at e
      · rename_i q
        simp only [Bool.and_eq_true, Bool.or_eq_true, Bool.not_eq_true', decide_eq_true_eq] at e
        obtain ⟨x, y, rfl, h1, h2, h3, h4⟩ := aok_num.mp (num?_ok q h)
        refine aok_num.mpr ⟨x, y, rfl, by omega, by omega, by omega, fun hq => ?_⟩
        rcases e.2 with e | e
        · exact h4 e
        · rw [e] at hq; cases hq
      · cases e
    · cases e
def AS.le (n : Nat) : AS → AS → Bool
  | _, .any => true
  | .no, .no => true
  | .val a, .val b => A.le n a b
  | .own a, .own b => A.le n a b
  | _, _ => false
theorem sle_ok {n : Nat} {a b : AS} {s : Slot} (e : AS.le n a b = true) (h : a.ok s) : b.ok s := by
  unfold AS.le at e
  split at e
  · trivial
  · exact h
  · obtain ⟨d, rfl, h⟩ := h; exact ⟨d, rfl, le_ok e h⟩
  · obtain ⟨d, rfl, h⟩ := h; exact ⟨d, rfl, le_ok e h⟩
  · cases e
def AEn.le (n : Nat) : AEn → AEn → Bool
  | [], [] => true
  | a :: as, b :: bs => AS.le n a b && AEn.le n as bs
  | _, _ => false
theorem ele_ok {n : Nat} : ∀ {a b : AEn} {η : En}, AEn.le n a b = true → a.ok η → b.ok η
  | [], [], _, _, h => h
  | [], b :: bs, _, e, _ => by simp [AEn.le] at e
  | a :: as, [], _, e, _ => by simp [AEn.le] at e
  | a :: as, b :: bs, η, e, h => by
    rw [AEn.le, Bool.and_eq_true] at e
    obtain ⟨s, ss, rfl, h1, h2⟩ := h
    exact ⟨s, ss, rfl, sle_ok e.1 h1, ele_ok e.2 h2⟩
/-- a block from one state to another, no answer between -/
def toB (P : Nat → Option Fd) (cts : List Ct) (n : Nat) (ss : List S) (η η' : AEn) : Bool := match aB (aRun P cts n) ss η with
  | some r => (match r.rt, r.bk, r.ct with
    | [], [], [] => r.nx.all fun a => AEn.le 40 a η'
    | _, _, _ => false)
  | none => false
/-- a block that answers a value of this kind, if it answers -/
def ansB (P : Nat → Option Fd) (cts : List Ct) (n : Nat) (ss : List S) (η : AEn) (a : A) : Bool := match aB (aRun P cts n) ss η with
  | some r => (match r.nx, r.bk, r.ct with
    | [], [], [] => r.rt.all fun b => A.le 40 b a
    | _, _, _ => false)
  | none => false
section
variable {P : Nat → Option Fd} {I : Sto → Prop} {cts : List Ct} {N : En → Sto → Prop} {R : D → Sto → Prop} {B C : En → Sto → Prop}
theorem toB_ok (hc : ∀ c, c ∈ cts → c.ok P I) {n : Nat} {ss : List S} {as as' : AEn} {η : En} {T : Sto} (e : toB P cts n ss as as' = true) (h : as.ok η) (hT : I T) (k : ∀ η T, as'.ok η → I T → N η T) : (exB (run P n) ss η T).wp N R B C := by
  unfold toB at e
  split at e <;> try (cases e; done)
  rename_i r q
  split at e <;> try (cases e; done)
  rename_i q1 q2 q3
  have := aB_ok (aRun_ok hc n) ss q h hT
  unfold AR.wp at this
  refine wps_step this (fun η T h => ?_) (fun d T h => ?_) (fun η T h => ?_) fun η T h => ?_
  · obtain ⟨⟨a, m, h1⟩, hT⟩ := h
    exact k η T (ele_ok (List.all_eq_true.mp e a m) h1) hT
  · rw [q1] at h; exact h.1.elim
  · rw [q2] at h; exact (ens_nil h.1).elim
  · rw [q3] at h; exact (ens_nil h.1).elim
theorem ansB_ok (hc : ∀ c, c ∈ cts → c.ok P I) {n : Nat} {ss : List S} {as : AEn} {a : A} {η : En} {T : Sto} (e : ansB P cts n ss as a = true) (h : as.ok η) (hT : I T) (k : ∀ d T, a.ok d → I T → R d T) : (exB (run P n) ss η T).wp N R B C := by
  unfold ansB at e
  split at e <;> try (cases e; done)
  rename_i r q
  split at e <;> try (cases e; done)
  rename_i q1 q2 q3
  have := aB_ok (aRun_ok hc n) ss q h hT
  unfold AR.wp at this
  refine wps_step this (fun η T h => ?_) (fun d T h => ?_) (fun η T h => ?_) fun η T h => ?_
  · rw [q1] at h; exact (ens_nil h.1).elim
  · obtain ⟨h1, hT⟩ := h
    rw [oko_mem] at h1
    obtain ⟨b, m, h1⟩ := h1
    exact k d T (le_ok (List.all_eq_true.mp e b m) h1) hT
  · rw [q2] at h; exact (ens_nil h.1).elim
  · rw [q3] at h; exact (ens_nil h.1).elim
end
end Ev
namespace Ev
open PySem
theorem N_move {x b k : Int} : N (num x b).1 ((num x b).2 + k) = N x (b + k) := by
  by_cases h : x = 0
  · subst h; rfl
  · obtain ⟨j, m, ho, e1, e2⟩ := num_parts (b := b) h
    show pr (num (num x b).1 ((num x b).2 + k)) = pr (num x (b + k))
    rw [e2]
    simp only
    have e3 : b + (j : Int) + k = b + k + j := by omega
    rw [e3, ← num_shift, ← e1]
theorem N_up {x b : Int} {j : Nat} : N x (b + j) = N (x * 2 ^ j) b := congrArg pr num_shift.symm
theorem N_up1 {x b : Int} : N x (b + 1) = N (2 * x) b := by
  have := @N_up x b 1
  rw [Int.mul_comm] at this
  exact this
theorem N_mv {x b k : Int} (h : x ≠ 0) : D.tup [.int (num x b).1, .int ((num x b).2 + k)] = N x (b + k) := congrArg pr (num_move h)
theorem num_neg1 {z b : Int} : ((num z b).1 < 0) = (z < 0) := by
  apply propext
  have h := iff_of_eq (@num_sign z b)
  omega
theorem num_0 {z b : Int} : ((num z b).1 = 0) = (z = 0) := by
  apply propext
  have h := iff_of_eq (@num_sign z b)
  have h1 := iff_of_eq (@num_sign1 z b)
  omega
theorem num_le0 {z b : Int} : ((num z b).1 ≤ 0) = (z ≤ 0) := by
  apply propext
  have h1 := iff_of_eq (@num_sign1 z b)
  omega
abbrev absI (x : Int) : Int := if x < 0 then -x else x
theorem sign_prod {x y b c : Int} : ((num x b).1 * (num y c).1 ≤ 0) = (x * y ≤ 0) := by
  have h := @num_mul x y b c
  have e : (num ((num x b).1 * (num y c).1) ((num x b).2 + (num y c).2)).1 = (num (x * y) (b + c)).1 := by rw [h]
  have h1 := @num_le0 ((num x b).1 * (num y c).1) ((num x b).2 + (num y c).2)
  have h2 := @num_le0 (x * y) (b + c)
  rw [e, h2] at h1
  exact h1.symm
/-- whether neither is more than twice the other -/
def closeB (x y : Int) : Bool := if x * y ≤ 0 then decide (x = y) else decide (absI x ≤ 2 * absI y) && decide (absI y ≤ 2 * absI x)
theorem closeB_comm (x y : Int) : closeB x y = closeB y x := by
  unfold closeB
  rw [Int.mul_comm y x]
  split
  · exact decide_eq_decide.mpr eq_comm
  · exact Bool.and_comm _ _
/-- a number, from a lower base -/
theorem toBase {k : Nat} {lo hi B : Int} {z : Bool} {d : D} (h : (A.num k lo hi z).ok d) (hB : -B ≤ lo) : ∃ x, d = N x (-B) ∧ bits x ≤ k + (hi + B).toNat ∧ (z = true → x ≠ 0) := by
  obtain ⟨x, b, rfl, h1, h2, h3, h4⟩ := aok_num.mp h
  have e : b = -B + ((b + B).toNat : Nat) := by omega
  refine ⟨x * 2 ^ (b + B).toNat, ?_, ?_, fun hz => ?_⟩
  · conv => lhs; rw [e]
    exact N_up
  · by_cases hx : x = 0
    · subst hx; rw [Int.zero_mul, bits_zero]; omega
    · rw [bits_mul_pow hx]; omega
  · have := pow_pos2 (b + B).toNat
    exact Int.mul_ne_zero (h4 hz) (by omega)
theorem words_mem {x : D} (m : x ∈ [D.str wDown, .str wNear, .str wOdd, .str wUp, .str wZero]) : ∃ w, x = .str w ∧ isWord w := by
  simp only [List.mem_cons, List.not_mem_nil, or_false] at m
  rcases m with rfl | rfl | rfl | rfl | rfl
  · exact ⟨_, rfl, .inl rfl⟩
  · exact ⟨_, rfl, .inr (.inl rfl)⟩
  · exact ⟨_, rfl, .inr (.inr (.inl rfl))⟩
  · exact ⟨_, rfl, .inr (.inr (.inr (.inl rfl)))⟩
  · exact ⟨_, rfl, .inr (.inr (.inr (.inr rfl)))⟩
theorem oks_1 {a : A} {ds : List D} (h : A.oks [a] ds) : ∃ d, ds = [d] ∧ a.ok d := by
  simp only [A.oks] at h
  obtain ⟨d, _, rfl, h1, rfl⟩ := h
  exact ⟨d, rfl, h1⟩
theorem oks_2 {a b : A} {ds : List D} (h : A.oks [a, b] ds) : ∃ d e, ds = [d, e] ∧ a.ok d ∧ b.ok e := by
  simp only [A.oks] at h
  obtain ⟨d, _, rfl, h1, e, _, rfl, h2, rfl⟩ := h
  exact ⟨d, e, rfl, h1, h2⟩
theorem oks_3 {a b c : A} {ds : List D} (h : A.oks [a, b, c] ds) : ∃ d e f, ds = [d, e, f] ∧ a.ok d ∧ b.ok e ∧ c.ok f := by
  simp only [A.oks] at h
  obtain ⟨d, _, rfl, h1, e, _, rfl, h2, f, _, rfl, h3, rfl⟩ := h
  exact ⟨d, e, f, rfl, h1, h2, h3⟩
theorem oks_4 {a b c a4 : A} {ds : List D} (h : A.oks [a, b, c, a4] ds) : ∃ d e f g, ds = [d, e, f, g] ∧ a.ok d ∧ b.ok e ∧ c.ok f ∧ a4.ok g := by
  simp only [A.oks] at h
  obtain ⟨d, _, rfl, h1, e, _, rfl, h2, f, _, rfl, h3, g, _, rfl, h4, rfl⟩ := h
  exact ⟨d, e, f, g, rfl, h1, h2, h3, h4⟩
theorem oks_0 {ds : List D} (h : A.oks [] ds) : ds = [] := by
  simpa only [A.oks] using h
theorem bits_shl {x : Int} {j k : Nat} (h : bits x ≤ k) : bits (x * 2 ^ j) ≤ k + j := by
  by_cases hx : x = 0
  · subst hx; rw [Int.zero_mul, bits_zero]; omega
  · rw [bits_mul_pow hx]; omega
/-- a pair of ints of these sizes -/
def A.pair? : A → Option (Nat × Int × Int)
  | .num k lo hi _ => some (k, mnI lo 0, mxI (hi + k) 0)
  | .tup [.int a b _, .int c d _] => some (bitsR a b, c, d)
  | _ => none
theorem pair?_ok {a : A} {k : Nat} {lo hi : Int} {d : D} (e : a.pair? = some (k, lo, hi)) (h : a.ok d) : ∃ p : Int × Int, d = pr p ∧ bits p.1 ≤ k ∧ lo ≤ p.2 ∧ p.2 ≤ hi := by
  unfold A.pair? at e
  split at e <;> simp only [Option.some.injEq, Prod.mk.injEq, reduceCtorEq] at e
  · obtain ⟨rfl, rfl, rfl⟩ := e
    obtain ⟨x, b, rfl, h1, h2, h3, h4⟩ := aok_num.mp h
    obtain ⟨q1, q2⟩ := num_bd (b := b) h1
    rename_i k lo hi nz
    have m1 := @mnI_l lo 0
    have m2 := @mnI_r lo 0
    have m3 := @mxI_l (hi + k) 0
    have m4 := @mxI_r (hi + k) 0
    exact ⟨_, rfl, q1, by omega, by omega⟩
  · obtain ⟨rfl, rfl, rfl⟩ := e
    rw [A.ok] at h
    obtain ⟨ds, rfl, h⟩ := h
    obtain ⟨d, e, rfl, h1, h2⟩ := oks_2 h
    obtain ⟨i, rfl, g1, g2, _⟩ := aok_int.mp h1
    obtain ⟨j, rfl, g3, g4, _⟩ := aok_int.mp h2
    exact ⟨(i, j), rfl, bits_range g1 g2, g3, g4⟩
/-- a number of a bearable size -/
def numOK (a : A) : Bool := match a.num? with
  | some (k, l, h, _) => decide (k ≤ 30000) && decide (-20000 ≤ l) && decide (h ≤ 20000)
  | none => false
theorem numOK_ok {a : A} {d : D} (e : numOK a = true) (h : a.ok d) : ∃ x, d = N x (-20000) ∧ Sk 70000 x (-20000) := by
  unfold numOK at e
  split at e <;> try (cases e; done)
  rename_i k l g z q
  simp only [Bool.and_eq_true, decide_eq_true_eq] at e
  obtain ⟨x, h1, h2, _⟩ := toBase (B := 20000) (num?_ok q h) e.1.2
  exact ⟨x, h1, by omega, by omega, by omega⟩
/-- a number of a format -/
def fitOK (p : Int) (a : A) : Bool := match a.num? with
  | some (k, l, h, _) => decide ((k : Int) ≤ p) && decide (k ≤ 30000) && decide (-20000 ≤ l) && decide (h ≤ 20000)
  | none => false
end Ev
namespace K06
open Ev PySem
/- 0 number_of(m, e) -/
/- 1 figures_of(one) -/
/- 2 opposite(one) -/
/- 3 exact_sum(one, other) -/
/- 4 exact_less(one, other) -/
/- 5 order_of(one, other) -/
/- 6 times_two(one, k) -/
/- 7 fits(p, one) -/
/- 8 full_form(p, one) -/
/- 9 are_close(one, other) -/
/- 10 difference_fits(p, one, other) -/
/- 11 sum_fits(p, one, other) -/
/- 12 close_ends(p, one) -/
/- 13 apart_pair(p, k) -/
/- 14 rank_of(p, one) -/
/- 15 steps_apart(p, one, other) -/
/- 16 is_raised(word, many, side, is_below) -/
/- 17 rounded_quotient(p, word, num, den) -/
/- 18 rounded(p, word, one) -/
/- 19 round_less(p, word, one, other) -/
/- 20 _law_own_bag(script) -/
/- 21 _law_draw(bag, below) -/
/- 22 _law_bits(bag, many) -/
/- 23 _law_full(bag, many) -/
/- 24 _law_width(bag) -/
/- 25 _law_place(bag) -/
/- 26 _law_num(m, e) -/
/- 27 _law_sum(one, other) -/
/- 28 _law_less(one, other) -/
/- 29 _law_rounded(p, word, one) -/
/- 30 _law_same(told, due) -/
/- 31 _law_turned(one) -/
/- 32 _law_signed(bag, one) -/
/- 33 _law_any(bag, most) -/
/- 34 _law_calm(bag, p, most) -/
/- 35 _law_twice(bag, one) -/
/- 36 _law_beside(bag, p, one) -/
/- 37 _law_apart(bag, p) -/
/- 38 _law_pair(bag, p, way) -/
/- 39 _law_fits(p, one) -/
/- 40 _law_close(one, other) -/
/- 41 _law_is_unfit(p, one, is_named) -/
/- 42 _law_are_fits_right(p, one, other) -/
/- 43 _law_is_pair_right(p, one, other) -/
/- 44 _law_are_ends_right(p, one) -/
/- 45 _law_are_widths_right(one, size, at, k) -/
/- 46 _law_are_examples_right() -/
/- 47 law(script) -/
def d0 : Fd := ⟨⟨#[110, 117, 109, 98, 101, 114, 95, 111, 102]⟩, [⟨#[109]⟩, ⟨#[101]⟩], [⟨#[109]⟩, ⟨#[101]⟩, ⟨#[108, 111, 119]⟩],
  [.ife (.cmp .Eq (.var 0) (.cst (.int 0))) [.ret (.tup [(.cst (.int 0)), (.cst (.int 0))])] [],
   .asg (.var 2) (.bin .Sub (.bitlen (.bin .BitAnd (.var 0) (.neg (.var 0)))) (.cst (.int 1))),
   .ret (.tup [(.bin .RShift (.var 0) (.var 2)), (.bin .Add (.var 1) (.var 2))])]⟩
def d1 : Fd := ⟨⟨#[102, 105, 103, 117, 114, 101, 115, 95, 111, 102]⟩, [⟨#[111, 110, 101]⟩], [⟨#[111, 110, 101]⟩],
  [.ret (.bitlen (.b1 .abs (.ix (.var 0) (.cst (.int 0)))))]⟩
def d2 : Fd := ⟨⟨#[111, 112, 112, 111, 115, 105, 116, 101]⟩, [⟨#[111, 110, 101]⟩], [⟨#[111, 110, 101]⟩],
  [.ret (.tup [(.neg (.ix (.var 0) (.cst (.int 0)))), (.ix (.var 0) (.cst (.int 1)))])]⟩
def d3 : Fd := ⟨⟨#[101, 120, 97, 99, 116, 95, 115, 117, 109]⟩, [⟨#[111, 110, 101]⟩, ⟨#[111, 116, 104, 101, 114]⟩], [⟨#[111, 110, 101]⟩, ⟨#[111, 116, 104, 101, 114]⟩, ⟨#[108, 111, 119]⟩],
  [.asg (.var 2) (.b2 .min (.ix (.var 0) (.cst (.int 1))) (.ix (.var 1) (.cst (.int 1)))),
   .ret (.call 0 [(.bin .Add (.bin .LShift (.ix (.var 0) (.cst (.int 0))) (.bin .Sub (.ix (.var 0) (.cst (.int 1))) (.var 2))) (.bin .LShift (.ix (.var 1) (.cst (.int 0))) (.bin .Sub (.ix (.var 1) (.cst (.int 1))) (.var 2)))), (.var 2)])]⟩
def d4 : Fd := ⟨⟨#[101, 120, 97, 99, 116, 95, 108, 101, 115, 115]⟩, [⟨#[111, 110, 101]⟩, ⟨#[111, 116, 104, 101, 114]⟩], [⟨#[111, 110, 101]⟩, ⟨#[111, 116, 104, 101, 114]⟩],
  [.ret (.call 3 [(.var 0), (.call 2 [(.var 1)])])]⟩
def d5 : Fd := ⟨⟨#[111, 114, 100, 101, 114, 95, 111, 102]⟩, [⟨#[111, 110, 101]⟩, ⟨#[111, 116, 104, 101, 114]⟩], [⟨#[111, 110, 101]⟩, ⟨#[111, 116, 104, 101, 114]⟩, ⟨#[108, 101, 115, 115]⟩],
  [.asg (.var 2) (.ix (.call 4 [(.var 0), (.var 1)]) (.cst (.int 0))),
   .ret (.ife (.cmp .Gt (.var 2) (.cst (.int 0))) (.cst (.int 1)) (.ife (.cmp .Lt (.var 2) (.cst (.int 0))) (.neg (.cst (.int 1))) (.cst (.int 0))))]⟩
def d6 : Fd := ⟨⟨#[116, 105, 109, 101, 115, 95, 116, 119, 111]⟩, [⟨#[111, 110, 101]⟩, ⟨#[107]⟩], [⟨#[111, 110, 101]⟩, ⟨#[107]⟩],
  [.ret (.call 0 [(.ix (.var 0) (.cst (.int 0))), (.bin .Add (.ix (.var 0) (.cst (.int 1))) (.var 1))])]⟩
def d7 : Fd := ⟨⟨#[102, 105, 116, 115]⟩, [⟨#[112]⟩, ⟨#[111, 110, 101]⟩], [⟨#[112]⟩, ⟨#[111, 110, 101]⟩],
  [.ret (.cmp .LtE (.call 1 [(.var 1)]) (.var 0))]⟩
def d8 : Fd := ⟨⟨#[102, 117, 108, 108, 95, 102, 111, 114, 109]⟩, [⟨#[112]⟩, ⟨#[111, 110, 101]⟩], [⟨#[112]⟩, ⟨#[111, 110, 101]⟩, ⟨#[109, 111, 114, 101]⟩],
  [.ife (.or (.cmp .Eq (.var 1) (.tup [(.cst (.int 0)), (.cst (.int 0))])) (.not (.call 7 [(.var 0), (.var 1)]))) [.raise 1 none []] [],
   .asg (.var 2) (.bin .Sub (.var 0) (.call 1 [(.var 1)])),
   .ret (.tup [(.bin .LShift (.ix (.var 1) (.cst (.int 0))) (.var 2)), (.bin .Sub (.ix (.var 1) (.cst (.int 1))) (.var 2))])]⟩
def d9 : Fd := ⟨⟨#[97, 114, 101, 95, 99, 108, 111, 115, 101]⟩, [⟨#[111, 110, 101]⟩, ⟨#[111, 116, 104, 101, 114]⟩], [⟨#[111, 110, 101]⟩, ⟨#[111, 116, 104, 101, 114]⟩, ⟨#[115, 105, 122, 101, 115]⟩],
  [.ife (.cmp .LtE (.bin .Mult (.ix (.var 0) (.cst (.int 0))) (.ix (.var 1) (.cst (.int 0)))) (.cst (.int 0))) [.ret (.cmp .Eq (.var 0) (.var 1))] [],
   .asg (.var 2) (.lst [(.tup [(.b1 .abs (.ix (.var 0) (.cst (.int 0)))), (.ix (.var 0) (.cst (.int 1)))]), (.tup [(.b1 .abs (.ix (.var 1) (.cst (.int 0)))), (.ix (.var 1) (.cst (.int 1)))])]),
   .ret (.and (.cmp .LtE (.call 5 [(.ix (.var 2) (.cst (.int 0))), (.call 6 [(.ix (.var 2) (.cst (.int 1))), (.cst (.int 1))])]) (.cst (.int 0))) (.cmp .LtE (.call 5 [(.ix (.var 2) (.cst (.int 1))), (.call 6 [(.ix (.var 2) (.cst (.int 0))), (.cst (.int 1))])]) (.cst (.int 0))))]⟩
def d10 : Fd := ⟨⟨#[100, 105, 102, 102, 101, 114, 101, 110, 99, 101, 95, 102, 105, 116, 115]⟩, [⟨#[112]⟩, ⟨#[111, 110, 101]⟩, ⟨#[111, 116, 104, 101, 114]⟩], [⟨#[112]⟩, ⟨#[111, 110, 101]⟩, ⟨#[111, 116, 104, 101, 114]⟩],
  [.ret (.call 7 [(.var 0), (.call 4 [(.var 1), (.var 2)])])]⟩
def d11 : Fd := ⟨⟨#[115, 117, 109, 95, 102, 105, 116, 115]⟩, [⟨#[112]⟩, ⟨#[111, 110, 101]⟩, ⟨#[111, 116, 104, 101, 114]⟩], [⟨#[112]⟩, ⟨#[111, 110, 101]⟩, ⟨#[111, 116, 104, 101, 114]⟩],
  [.ret (.call 7 [(.var 0), (.call 3 [(.var 1), (.var 2)])])]⟩
def d12 : Fd := ⟨⟨#[99, 108, 111, 115, 101, 95, 101, 110, 100, 115]⟩, [⟨#[112]⟩, ⟨#[111, 110, 101]⟩], [⟨#[112]⟩, ⟨#[111, 110, 101]⟩, ⟨#[104, 97, 108, 102]⟩, ⟨#[116, 119, 105, 99, 101]⟩],
  [.ife (.or (.cmp .Eq (.var 1) (.tup [(.cst (.int 0)), (.cst (.int 0))])) (.not (.call 7 [(.var 0), (.var 1)]))) [.raise 1 none []] [],
   .asg (.tup [(.var 2), (.var 3)]) (.tup [(.call 6 [(.var 1), (.neg (.cst (.int 1)))]), (.call 6 [(.var 1), (.cst (.int 1))])]),
   .ret (.ife (.cmp .Gt (.ix (.var 1) (.cst (.int 0))) (.cst (.int 0))) (.tup [(.var 2), (.var 3)]) (.tup [(.var 3), (.var 2)]))]⟩
def d13 : Fd := ⟨⟨#[97, 112, 97, 114, 116, 95, 112, 97, 105, 114]⟩, [⟨#[112]⟩, ⟨#[107]⟩], [⟨#[112]⟩, ⟨#[107]⟩],
  [.ret (.tup [(.tup [(.cst (.int 1)), (.bin .Add (.var 1) (.cst (.int 2)))]), (.call 0 [(.bin .Sub (.bin .LShift (.cst (.int 1)) (.var 0)) (.cst (.int 1))), (.bin .Sub (.bin .Add (.var 1) (.cst (.int 1))) (.var 0))])])]⟩
def d14 : Fd := ⟨⟨#[114, 97, 110, 107, 95, 111, 102]⟩, [⟨#[112]⟩, ⟨#[111, 110, 101]⟩], [⟨#[112]⟩, ⟨#[111, 110, 101]⟩, ⟨#[109, 97, 110, 121]⟩, ⟨#[107]⟩],
  [.asg (.tup [(.var 2), (.var 3)]) (.call 8 [(.var 0), (.var 1)]),
   .ret (.bin .Add (.bin .LShift (.var 3) (.bin .Sub (.var 0) (.cst (.int 1)))) (.b1 .abs (.var 2)))]⟩
def d15 : Fd := ⟨⟨#[115, 116, 101, 112, 115, 95, 97, 112, 97, 114, 116]⟩, [⟨#[112]⟩, ⟨#[111, 110, 101]⟩, ⟨#[111, 116, 104, 101, 114]⟩], [⟨#[112]⟩, ⟨#[111, 110, 101]⟩, ⟨#[111, 116, 104, 101, 114]⟩],
  [.ife (.or (.not (.call 7 [(.var 0), (.var 1)])) (.or (.not (.call 7 [(.var 0), (.var 2)])) (.cmp .LtE (.bin .Mult (.ix (.var 1) (.cst (.int 0))) (.ix (.var 2) (.cst (.int 0)))) (.cst (.int 0))))) [.raise 1 none []] [],
   .ret (.b1 .abs (.bin .Sub (.call 14 [(.var 0), (.var 1)]) (.call 14 [(.var 0), (.var 2)])))]⟩
def d16 : Fd := ⟨⟨#[105, 115, 95, 114, 97, 105, 115, 101, 100]⟩, [⟨#[119, 111, 114, 100]⟩, ⟨#[109, 97, 110, 121]⟩, ⟨#[115, 105, 100, 101]⟩, ⟨#[105, 115, 95, 98, 101, 108, 111, 119]⟩], [⟨#[119, 111, 114, 100]⟩, ⟨#[109, 97, 110, 121]⟩, ⟨#[115, 105, 100, 101]⟩, ⟨#[105, 115, 95, 98, 101, 108, 111, 119]⟩],
  [.ife (.cmp .Eq (.var 0) (.cst (.str ⟨#[110, 101, 97, 114]⟩))) [.ret (.or (.cmp .Gt (.var 2) (.cst (.int 0))) (.and (.cmp .Eq (.var 2) (.cst (.int 0))) (.cmp .Eq (.bin .Mod (.b1 .int (.var 1)) (.cst (.int 2))) (.cst (.int 1)))))] [],
   .ife (.cmp .Eq (.var 0) (.cst (.str ⟨#[111, 100, 100]⟩))) [.ret (.cmp .Eq (.bin .Mod (.b1 .int (.var 1)) (.cst (.int 2))) (.cst (.int 0)))] [],
   .ret (.cmp .Eq (.var 0) (.ife (.var 3) (.cst (.str ⟨#[100, 111, 119, 110]⟩)) (.cst (.str ⟨#[117, 112]⟩))))]⟩
def d17 : Fd := ⟨⟨#[114, 111, 117, 110, 100, 101, 100, 95, 113, 117, 111, 116, 105, 101, 110, 116]⟩, [⟨#[112]⟩, ⟨#[119, 111, 114, 100]⟩, ⟨#[110, 117, 109]⟩, ⟨#[100, 101, 110]⟩], [⟨#[112]⟩, ⟨#[119, 111, 114, 100]⟩, ⟨#[110, 117, 109]⟩, ⟨#[100, 101, 110]⟩, ⟨#[107]⟩, ⟨#[115, 105, 122, 101]⟩, ⟨#[116, 111, 112]⟩, ⟨#[117, 112]⟩, ⟨#[100, 111, 119, 110]⟩, ⟨#[109, 97, 110, 121]⟩, ⟨#[108, 101, 102, 116]⟩, ⟨#[116, 119, 105, 99, 101]⟩],
  [.ife (.cmp .Eq (.var 2) (.cst (.int 0))) [.ret (.tup [(.cst (.int 0)), (.cst (.int 0))])] [],
   .asg (.tup [(.var 5), (.var 6)]) (.tup [(.b1 .abs (.var 2)), (.bin .Sub (.bitlen (.b1 .abs (.var 2))) (.bitlen (.var 3)))]),
   .ife (.cmp .GtE (.bin .LShift (.var 5) (.b2 .max (.cst (.int 0)) (.neg (.var 6)))) (.bin .LShift (.var 3) (.b2 .max (.cst (.int 0)) (.var 6)))) [.asg (.var 6) (.bin .Add (.var 6) (.cst (.int 1)))] [],
   .asg (.var 4) (.bin .Sub (.var 6) (.var 0)),
   .asg (.tup [(.var 7), (.var 8)]) (.tup [(.bin .LShift (.var 5) (.b2 .max (.cst (.int 0)) (.neg (.var 4)))), (.bin .LShift (.var 3) (.b2 .max (.cst (.int 0)) (.var 4)))]),
   .asg (.tup [(.var 9), (.var 10)]) (.tup [(.bin .FloorDiv (.var 7) (.var 8)), (.bin .Mod (.b1 .int (.var 7)) (.var 8))]),
   .ife (.cmp .Gt (.var 10) (.cst (.int 0))) [.asg (.var 11) (.bin .Sub (.bin .Mult (.cst (.int 2)) (.var 10)) (.var 8)), .asg (.var 9) (.bin .Add (.var 9) (.ife (.call 16 [(.var 1), (.var 9), (.ife (.cmp .Gt (.var 11) (.cst (.int 0))) (.cst (.int 1)) (.ife (.cmp .Eq (.var 11) (.cst (.int 0))) (.cst (.int 0)) (.neg (.cst (.int 1))))), (.cmp .Lt (.var 2) (.cst (.int 0)))]) (.cst (.int 1)) (.cst (.int 0))))] [],
   .ret (.call 0 [(.ife (.cmp .Gt (.var 2) (.cst (.int 0))) (.var 9) (.neg (.var 9))), (.var 4)])]⟩
def d18 : Fd := ⟨⟨#[114, 111, 117, 110, 100, 101, 100]⟩, [⟨#[112]⟩, ⟨#[119, 111, 114, 100]⟩, ⟨#[111, 110, 101]⟩], [⟨#[112]⟩, ⟨#[119, 111, 114, 100]⟩, ⟨#[111, 110, 101]⟩, ⟨#[102, 111, 117, 110, 100]⟩],
  [.ife (.call 7 [(.var 0), (.var 2)]) [.ret (.var 2)] [],
   .asg (.var 3) (.call 17 [(.var 0), (.var 1), (.ix (.var 2) (.cst (.int 0))), (.cst (.int 1))]),
   .ret (.tup [(.ix (.var 3) (.cst (.int 0))), (.bin .Add (.ix (.var 3) (.cst (.int 1))) (.ix (.var 2) (.cst (.int 1))))])]⟩
def d19 : Fd := ⟨⟨#[114, 111, 117, 110, 100, 95, 108, 101, 115, 115]⟩, [⟨#[112]⟩, ⟨#[119, 111, 114, 100]⟩, ⟨#[111, 110, 101]⟩, ⟨#[111, 116, 104, 101, 114]⟩], [⟨#[112]⟩, ⟨#[119, 111, 114, 100]⟩, ⟨#[111, 110, 101]⟩, ⟨#[111, 116, 104, 101, 114]⟩],
  [.ret (.call 18 [(.var 0), (.var 1), (.call 4 [(.var 2), (.var 3)])])]⟩
def d20 : Fd := ⟨⟨#[95, 108, 97, 119, 95, 111, 119, 110, 95, 98, 97, 103]⟩, [⟨#[115, 99, 114, 105, 112, 116]⟩], [⟨#[115, 99, 114, 105, 112, 116]⟩, ⟨#[99, 101, 108, 108, 115]⟩, ⟨#[109, 105, 120, 101, 100]⟩, ⟨#[99, 101, 108, 108]⟩],
  [.own 1 (.lc (.bin .Mod (.b1 .abs (.var 3)) (.bin .LShift (.cst (.int 1)) (.cst (.int 640)))) (.var 3) (.sq (.sl (.var 0) none (some (.cst (.int 63))))) none [3]),
   .frz 1,
   .asg (.var 2) (.bin .Add (.cst (.int 24680)) (.b1 .len (.var 1))),
   .for (.var 3) (.sq (.var 1)) [.asg (.var 2) (.bin .Mod (.b1 .int (.bin .Add (.bin .Add (.bin .Mult (.var 2) (.cst (.int 48271))) (.bin .Mod (.b1 .int (.var 3)) (.cst (.int 2147483629)))) (.cst (.int 7)))) (.cst (.int 2147483647)))],
   .ret (.share (.lst [(.share (.b1 .rev (.b1 .list (.var 1)))), (.cst (.int 0)), (.var 2)]))]⟩
def d21 : Fd := ⟨⟨#[95, 108, 97, 119, 95, 100, 114, 97, 119]⟩, [⟨#[98, 97, 103]⟩, ⟨#[98, 101, 108, 111, 119]⟩], [⟨#[98, 97, 103]⟩, ⟨#[98, 101, 108, 111, 119]⟩, ⟨#[116, 117, 114, 110]⟩, ⟨#[99, 101, 108, 108]⟩, ⟨#[102, 111, 117, 110, 100]⟩],
  [.for (.var 2) (.rng none (.cst (.int 64))) [.ife (.or (.cmp .Gt (.ix (.var 0) (.cst (.int 1))) (.cst (.int 0))) (.cmp .Eq (.ix (.var 0) (.cst (.int 0))) (.lst []))) [.brk] [], .asg (.var 3) (.pop (.ix (.var 0) (.cst (.int 0)))), .setL (.var 0) (.cst (.int 1)) (.ife (.cmp .Gt (.var 3) (.bin .Pow (.cst (.int 10)) (.cst (.int 12)))) (.var 3) (.cst (.int 0)))],
   .ife (.cmp .Gt (.ix (.var 0) (.cst (.int 1))) (.cst (.int 0))) [.asg (.var 4) (.bin .Mod (.b1 .int (.ix (.var 0) (.cst (.int 1)))) (.var 1)), .setL (.var 0) (.cst (.int 1)) (.bin .FloorDiv (.ix (.var 0) (.cst (.int 1))) (.var 1)), .ret (.var 4)] [],
   .setL (.var 0) (.cst (.int 2)) (.bin .Mod (.b1 .int (.bin .Add (.bin .Mult (.ix (.var 0) (.cst (.int 2))) (.cst (.int 48271))) (.cst (.int 11)))) (.cst (.int 2147483647))),
   .ret (.bin .Mod (.bin .FloorDiv (.bin .Mod (.b1 .int (.bin .Mult (.ix (.var 0) (.cst (.int 2))) (.ix (.var 0) (.cst (.int 2))))) (.cst (.int 2147483629))) (.cst (.int 7))) (.var 1))]⟩
def d22 : Fd := ⟨⟨#[95, 108, 97, 119, 95, 98, 105, 116, 115]⟩, [⟨#[98, 97, 103]⟩, ⟨#[109, 97, 110, 121]⟩], [⟨#[98, 97, 103]⟩, ⟨#[109, 97, 110, 121]⟩, ⟨#[116, 117, 114, 110]⟩, ⟨#[102, 111, 117, 110, 100]⟩, ⟨#[114, 101, 115, 116]⟩],
  [.asg (.tup [(.var 3), (.var 4)]) (.tup [(.cst (.int 0)), (.bin .Mod (.b1 .int (.var 1)) (.cst (.int 20)))]),
   .for (.var 2) (.rng none (.bin .FloorDiv (.var 1) (.cst (.int 20)))) [.asg (.var 3) (.bin .Add (.bin .LShift (.var 3) (.cst (.int 20))) (.call 21 [(.var 0), (.bin .LShift (.cst (.int 1)) (.cst (.int 20)))]))],
   .ret (.bin .Add (.bin .LShift (.var 3) (.var 4)) (.call 21 [(.var 0), (.bin .LShift (.cst (.int 1)) (.var 4))]))]⟩
def d23 : Fd := ⟨⟨#[95, 108, 97, 119, 95, 102, 117, 108, 108]⟩, [⟨#[98, 97, 103]⟩, ⟨#[109, 97, 110, 121]⟩], [⟨#[98, 97, 103]⟩, ⟨#[109, 97, 110, 121]⟩],
  [.ret (.bin .Add (.bin .LShift (.cst (.int 1)) (.bin .Sub (.var 1) (.cst (.int 1)))) (.call 22 [(.var 0), (.bin .Sub (.var 1) (.cst (.int 1)))]))]⟩
def d24 : Fd := ⟨⟨#[95, 108, 97, 119, 95, 119, 105, 100, 116, 104]⟩, [⟨#[98, 97, 103]⟩], [⟨#[98, 97, 103]⟩, ⟨#[119, 97, 121]⟩],
  [.asg (.var 1) (.call 21 [(.var 0), (.cst (.int 8))]),
   .ret (.ife (.cmp .Lt (.var 1) (.cst (.int 4))) (.ix (.lst [(.cst (.int 2)), (.cst (.int 3)), (.cst (.int 4)), (.cst (.int 24))]) (.var 1)) (.bin .Add (.cst (.int 2)) (.call 21 [(.var 0), (.cst (.int 23))])))]⟩
def d25 : Fd := ⟨⟨#[95, 108, 97, 119, 95, 112, 108, 97, 99, 101]⟩, [⟨#[98, 97, 103]⟩], [⟨#[98, 97, 103]⟩, ⟨#[119, 97, 121]⟩],
  [.asg (.var 1) (.call 21 [(.var 0), (.cst (.int 8))]),
   .ife (.cmp .Lt (.var 1) (.cst (.int 2))) [.ret (.ix (.lst [(.neg (.cst (.int 400))), (.cst (.int 400))]) (.var 1))] [],
   .ret (.ife (.cmp .Lt (.var 1) (.cst (.int 5))) (.bin .Sub (.call 21 [(.var 0), (.cst (.int 801))]) (.cst (.int 400))) (.bin .Sub (.call 21 [(.var 0), (.cst (.int 41))]) (.cst (.int 20))))]⟩
def d26 : Fd := ⟨⟨#[95, 108, 97, 119, 95, 110, 117, 109]⟩, [⟨#[109]⟩, ⟨#[101]⟩], [⟨#[109]⟩, ⟨#[101]⟩, ⟨#[116, 119, 111, 115]⟩],
  [.ife (.cmp .Eq (.var 0) (.cst (.int 0))) [.ret (.tup [(.cst (.int 0)), (.cst (.int 0))])] [],
   .asg (.var 2) (.bin .Sub (.bitlen (.bin .BitAnd (.var 0) (.neg (.var 0)))) (.cst (.int 1))),
   .ret (.tup [(.bin .RShift (.var 0) (.var 2)), (.bin .Add (.var 1) (.var 2))])]⟩
def d27 : Fd := ⟨⟨#[95, 108, 97, 119, 95, 115, 117, 109]⟩, [⟨#[111, 110, 101]⟩, ⟨#[111, 116, 104, 101, 114]⟩], [⟨#[111, 110, 101]⟩, ⟨#[111, 116, 104, 101, 114]⟩, ⟨#[108, 111, 119]⟩],
  [.asg (.var 2) (.ife (.cmp .Lt (.ix (.var 0) (.cst (.int 1))) (.ix (.var 1) (.cst (.int 1)))) (.ix (.var 0) (.cst (.int 1))) (.ix (.var 1) (.cst (.int 1)))),
   .ret (.call 26 [(.bin .Add (.bin .LShift (.ix (.var 0) (.cst (.int 0))) (.bin .Sub (.ix (.var 0) (.cst (.int 1))) (.var 2))) (.bin .LShift (.ix (.var 1) (.cst (.int 0))) (.bin .Sub (.ix (.var 1) (.cst (.int 1))) (.var 2)))), (.var 2)])]⟩
def d28 : Fd := ⟨⟨#[95, 108, 97, 119, 95, 108, 101, 115, 115]⟩, [⟨#[111, 110, 101]⟩, ⟨#[111, 116, 104, 101, 114]⟩], [⟨#[111, 110, 101]⟩, ⟨#[111, 116, 104, 101, 114]⟩],
  [.ret (.call 27 [(.var 0), (.tup [(.neg (.ix (.var 1) (.cst (.int 0)))), (.ix (.var 1) (.cst (.int 1)))])])]⟩
def d29 : Fd := ⟨⟨#[95, 108, 97, 119, 95, 114, 111, 117, 110, 100, 101, 100]⟩, [⟨#[112]⟩, ⟨#[119, 111, 114, 100]⟩, ⟨#[111, 110, 101]⟩], [⟨#[112]⟩, ⟨#[119, 111, 114, 100]⟩, ⟨#[111, 110, 101]⟩, ⟨#[115, 105, 122, 101]⟩, ⟨#[111, 118, 101, 114]⟩, ⟨#[107, 101, 112, 116]⟩, ⟨#[109]⟩, ⟨#[101]⟩, ⟨#[114, 101, 115, 116]⟩, ⟨#[104, 97, 108, 102]⟩, ⟨#[109, 111, 114, 101]⟩],
  [.asg (.tup [(.var 6), (.var 7)]) (.var 2),
   .asg (.var 3) (.b1 .abs (.var 6)),
   .asg (.var 4) (.bin .Sub (.bitlen (.var 3)) (.var 0)),
   .ife (.cmp .LtE (.var 4) (.cst (.int 0))) [.ret (.var 2)] [],
   .asg (.var 5) (.bin .RShift (.var 3) (.var 4)),
   .asg (.tup [(.var 8), (.var 9)]) (.tup [(.bin .Sub (.var 3) (.bin .LShift (.var 5) (.var 4))), (.bin .LShift (.cst (.int 1)) (.bin .Sub (.var 4) (.cst (.int 1))))]),
   .ife (.cmp .Eq (.var 1) (.cst (.str ⟨#[110, 101, 97, 114]⟩))) [.asg (.var 10) (.or (.cmp .Gt (.var 8) (.var 9)) (.and (.cmp .Eq (.var 8) (.var 9)) (.cmp .Eq (.bin .BitAnd (.var 5) (.cst (.int 1))) (.cst (.int 1)))))] [.ife (.cmp .Eq (.var 1) (.cst (.str ⟨#[111, 100, 100]⟩))) [.asg (.var 10) (.cmp .Eq (.bin .BitAnd (.var 5) (.cst (.int 1))) (.cst (.int 0)))] [.ife (.cmp .Eq (.var 1) (.cst (.str ⟨#[122, 101, 114, 111]⟩))) [.asg (.var 10) (.cst (.bl false))] [.asg (.var 10) (.cmp .Eq (.cmp .Eq (.var 1) (.cst (.str ⟨#[117, 112]⟩))) (.cmp .Gt (.var 6) (.cst (.int 0))))]]],
   .asg (.var 5) (.ife (.var 10) (.bin .Add (.var 5) (.cst (.int 1))) (.var 5)),
   .ret (.call 26 [(.ife (.cmp .Gt (.var 6) (.cst (.int 0))) (.var 5) (.neg (.var 5))), (.bin .Add (.var 7) (.var 4))])]⟩
def d30 : Fd := ⟨⟨#[95, 108, 97, 119, 95, 115, 97, 109, 101]⟩, [⟨#[116, 111, 108, 100]⟩, ⟨#[100, 117, 101]⟩], [⟨#[116, 111, 108, 100]⟩, ⟨#[100, 117, 101]⟩, ⟨#[97]⟩, ⟨#[98]⟩],
  [.ife (.cmp .Is (.var 1) (.cst .non)) [.ret (.cmp .Is (.var 0) (.cst .non))] [],
   .ife (.cmp .Is (.var 1) (.cst (.bl true))) [.ret (.cmp .Is (.var 0) (.cst (.bl true)))] [],
   .ife (.cmp .Is (.var 1) (.cst (.bl false))) [.ret (.cmp .Is (.var 0) (.cst (.bl false)))] [],
   .ife (.isi (.var 1) .tuple) [.ife (.or (.not (.isi (.var 0) .tuple)) (.cmp .NotEq (.b1 .len (.var 0)) (.b1 .len (.var 1)))) [.ret (.cst (.bl false))] [], .ret (.b1 .all (.lc (.call 30 [(.var 2), (.var 3)]) (.tup [(.var 2), (.var 3)]) (.zip [(.var 0), (.var 1)]) none [2, 3]))] [],
   .ret (.and (.isi (.var 0) .int) (.and (.not (.isi (.var 0) .bool)) (.cmp .Eq (.var 0) (.var 1))))]⟩
def d31 : Fd := ⟨⟨#[95, 108, 97, 119, 95, 116, 117, 114, 110, 101, 100]⟩, [⟨#[111, 110, 101]⟩], [⟨#[111, 110, 101]⟩],
  [.ret (.tup [(.neg (.ix (.var 0) (.cst (.int 0)))), (.ix (.var 0) (.cst (.int 1)))])]⟩
def d32 : Fd := ⟨⟨#[95, 108, 97, 119, 95, 115, 105, 103, 110, 101, 100]⟩, [⟨#[98, 97, 103]⟩, ⟨#[111, 110, 101]⟩], [⟨#[98, 97, 103]⟩, ⟨#[111, 110, 101]⟩],
  [.ret (.ife (.cmp .Eq (.call 21 [(.var 0), (.cst (.int 2))]) (.cst (.int 0))) (.var 1) (.tup [(.neg (.ix (.var 1) (.cst (.int 0)))), (.ix (.var 1) (.cst (.int 1)))]))]⟩
def d33 : Fd := ⟨⟨#[95, 108, 97, 119, 95, 97, 110, 121]⟩, [⟨#[98, 97, 103]⟩, ⟨#[109, 111, 115, 116]⟩], [⟨#[98, 97, 103]⟩, ⟨#[109, 111, 115, 116]⟩],
  [.ret (.call 32 [(.var 0), (.tup [(.ix (.call 26 [(.call 23 [(.var 0), (.bin .Add (.cst (.int 1)) (.call 21 [(.var 0), (.var 1)]))]), (.cst (.int 0))]) (.cst (.int 0))), (.call 25 [(.var 0)])])])]⟩
def d34 : Fd := ⟨⟨#[95, 108, 97, 119, 95, 99, 97, 108, 109]⟩, [⟨#[98, 97, 103]⟩, ⟨#[112]⟩, ⟨#[109, 111, 115, 116]⟩], [⟨#[98, 97, 103]⟩, ⟨#[112]⟩, ⟨#[109, 111, 115, 116]⟩, ⟨#[115, 105, 122, 101]⟩],
  [.asg (.var 3) (.call 23 [(.var 0), (.ife (.cmp .Eq (.call 21 [(.var 0), (.cst (.int 2))]) (.cst (.int 0))) (.var 1) (.bin .Add (.cst (.int 1)) (.call 21 [(.var 0), (.var 2)])))]),
   .ret (.call 32 [(.var 0), (.call 26 [(.var 3), (.bin .Sub (.call 21 [(.var 0), (.cst (.int 381))]) (.cst (.int 190)))])])]⟩
def d35 : Fd := ⟨⟨#[95, 108, 97, 119, 95, 116, 119, 105, 99, 101]⟩, [⟨#[98, 97, 103]⟩, ⟨#[111, 110, 101]⟩], [⟨#[98, 97, 103]⟩, ⟨#[111, 110, 101]⟩, ⟨#[102, 97, 114]⟩, ⟨#[115, 105, 122, 101]⟩],
  [.asg (.var 2) (.call 21 [(.var 0), (.cst (.int 60))]),
   .asg (.var 3) (.bin .LShift (.ix (.var 1) (.cst (.int 0))) (.bin .Add (.var 2) (.cst (.int 1)))),
   .ife (.cmp .Gt (.call 21 [(.var 0), (.cst (.int 3))]) (.cst (.int 0))) [.asg (.var 3) (.bin .Add (.var 3) (.ix (.lst [(.neg (.cst (.int 1))), (.cst (.int 1))]) (.call 21 [(.var 0), (.cst (.int 2))])))] [],
   .ret (.call 26 [(.var 3), (.bin .Sub (.bin .Sub (.ix (.var 1) (.cst (.int 1))) (.var 2)) (.bin .Mult (.cst (.int 2)) (.call 21 [(.var 0), (.cst (.int 2))])))])]⟩
def d36 : Fd := ⟨⟨#[95, 108, 97, 119, 95, 98, 101, 115, 105, 100, 101]⟩, [⟨#[98, 97, 103]⟩, ⟨#[112]⟩, ⟨#[111, 110, 101]⟩], [⟨#[98, 97, 103]⟩, ⟨#[112]⟩, ⟨#[111, 110, 101]⟩, ⟨#[115, 105, 122, 101]⟩],
  [.asg (.var 3) (.call 23 [(.var 0), (.ix (.lst [(.var 1), (.bin .Add (.var 1) (.cst (.int 1))), (.bin .Add (.var 1) (.cst (.int 1))), (.bin .Add (.cst (.int 1)) (.call 21 [(.var 0), (.bin .Add (.var 1) (.cst (.int 4)))]))]) (.call 21 [(.var 0), (.cst (.int 4))]))]),
   .ife (.cmp .Eq (.call 21 [(.var 0), (.cst (.int 2))]) (.cst (.int 0))) [.asg (.var 3) (.bin .Add (.bin .Mult (.cst (.int 2)) (.bin .RShift (.var 3) (.cst (.int 1)))) (.cst (.int 1)))] [],
   .ret (.call 27 [(.var 2), (.call 32 [(.var 0), (.tup [(.var 3), (.bin .Sub (.bin .Add (.ix (.var 2) (.cst (.int 1))) (.call 21 [(.var 0), (.cst (.int 60))])) (.cst (.int 30)))])])])]⟩
def d37 : Fd := ⟨⟨#[95, 108, 97, 119, 95, 97, 112, 97, 114, 116]⟩, [⟨#[98, 97, 103]⟩, ⟨#[112]⟩], [⟨#[98, 97, 103]⟩, ⟨#[112]⟩, ⟨#[109, 111, 114, 101]⟩, ⟨#[104, 105, 103, 104]⟩, ⟨#[108, 111, 119]⟩, ⟨#[117, 112]⟩, ⟨#[112, 108, 97, 99, 101]⟩, ⟨#[111, 110, 101]⟩, ⟨#[111, 116, 104, 101, 114]⟩],
  [.asg (.tup [(.var 4), (.var 5)]) (.tup [(.call 23 [(.var 0), (.var 1)]), (.bin .LShift (.cst (.int 1)) (.var 1))]),
   .asg (.var 2) (.ix (.lst [(.var 5), (.bin .Sub (.var 5) (.cst (.int 1))), (.bin .Sub (.var 5) (.call 21 [(.var 0), (.bin .Sub (.var 5) (.var 4))])), (.bin .Add (.var 4) (.cst (.int 1)))]) (.call 21 [(.var 0), (.cst (.int 4))])),
   .asg (.tup [(.var 3), (.var 6)]) (.tup [(.bin .RShift (.bin .Add (.var 4) (.var 2)) (.cst (.int 1))), (.bin .Sub (.call 21 [(.var 0), (.cst (.int 381))]) (.cst (.int 190)))]),
   .asg (.var 3) (.bin .Mult (.cst (.int 2)) (.var 3)),
   .asg (.tup [(.var 7), (.var 8)]) (.tup [(.call 26 [(.ife (.cmp .Gt (.var 3) (.bin .Mult (.cst (.int 2)) (.var 4))) (.var 3) (.bin .Add (.var 4) (.var 5))), (.var 6)]), (.call 26 [(.var 4), (.var 6)])]),
   .ret (.ife (.cmp .Eq (.call 21 [(.var 0), (.cst (.int 2))]) (.cst (.int 0))) (.tup [(.var 7), (.var 8)]) (.tup [(.call 31 [(.var 7)]), (.call 31 [(.var 8)])]))]⟩
def d38 : Fd := ⟨⟨#[95, 108, 97, 119, 95, 112, 97, 105, 114]⟩, [⟨#[98, 97, 103]⟩, ⟨#[112]⟩, ⟨#[119, 97, 121]⟩], [⟨#[98, 97, 103]⟩, ⟨#[112]⟩, ⟨#[119, 97, 121]⟩, ⟨#[111, 110, 101]⟩, ⟨#[115, 111, 109, 101]⟩, ⟨#[112, 108, 97, 99, 101]⟩, ⟨#[116, 117, 114, 110]⟩, ⟨#[111, 116, 104, 101, 114]⟩],
  [.asg (.var 3) (.call 34 [(.var 0), (.var 1), (.cst (.int 100))]),
   .ife (.cmp .Eq (.var 2) (.cst (.int 0))) [.ret (.tup [(.call 33 [(.var 0), (.cst (.int 200))]), (.call 33 [(.var 0), (.cst (.int 200))])])] [],
   .ife (.cmp .Eq (.var 2) (.cst (.int 1))) [.ret (.tup [(.var 3), (.call 35 [(.var 0), (.var 3)])])] [],
   .ife (.cmp .Eq (.var 2) (.cst (.int 2))) [.asg (.var 5) (.bin .FloorDiv (.call 25 [(.var 0)]) (.cst (.int 2))), .asg (.tup [(.var 3), (.var 7)]) (.tup [(.tup [(.call 23 [(.var 0), (.var 1)]), (.var 5)]), (.tup [(.call 23 [(.var 0), (.var 1)]), (.var 5)])]), .asg (.var 6) (.ife (.cmp .Eq (.call 21 [(.var 0), (.cst (.int 2))]) (.cst (.int 0))) (.cst (.int 1)) (.neg (.cst (.int 1)))), .ret (.tup [(.call 26 [(.bin .Mult (.var 6) (.ix (.var 3) (.cst (.int 0)))), (.var 5)]), (.call 26 [(.bin .Mult (.var 6) (.ix (.var 7) (.cst (.int 0)))), (.var 5)])])] [],
   .ife (.cmp .Eq (.var 2) (.cst (.int 3))) [.ret (.tup [(.call 36 [(.var 0), (.var 1), (.var 3)]), (.var 3)])] [],
   .ife (.cmp .Eq (.var 2) (.cst (.int 4))) [.ret (.tup [(.call 36 [(.var 0), (.var 1), (.var 3)]), (.call 31 [(.var 3)])])] [],
   .ife (.cmp .Eq (.var 2) (.cst (.int 5))) [.ret (.call 37 [(.var 0), (.var 1)])] [],
   .ife (.cmp .Eq (.var 2) (.cst (.int 6))) [.asg (.var 3) (.call 33 [(.var 0), (.ix (.lst [(.cst (.int 24)), (.cst (.int 200))]) (.call 21 [(.var 0), (.cst (.int 2))]))]), .ret (.tup [(.var 3), (.call 32 [(.var 0), (.var 3)])])] [],
   .asg (.var 4) (.lst [(.tup [(.cst (.int 0)), (.cst (.int 0))]), (.call 33 [(.var 0), (.var 1)])]),
   .ret (.tup [(.ix (.var 4) (.call 21 [(.var 0), (.cst (.int 2))])), (.ix (.var 4) (.call 21 [(.var 0), (.cst (.int 2))]))])]⟩
def d39 : Fd := ⟨⟨#[95, 108, 97, 119, 95, 102, 105, 116, 115]⟩, [⟨#[112]⟩, ⟨#[111, 110, 101]⟩], [⟨#[112]⟩, ⟨#[111, 110, 101]⟩],
  [.ret (.cmp .LtE (.bitlen (.b1 .abs (.ix (.var 1) (.cst (.int 0))))) (.var 0))]⟩
def d40 : Fd := ⟨⟨#[95, 108, 97, 119, 95, 99, 108, 111, 115, 101]⟩, [⟨#[111, 110, 101]⟩, ⟨#[111, 116, 104, 101, 114]⟩], [⟨#[111, 110, 101]⟩, ⟨#[111, 116, 104, 101, 114]⟩, ⟨#[97]⟩, ⟨#[98]⟩],
  [.ife (.or (.cmp .Eq (.var 0) (.tup [(.cst (.int 0)), (.cst (.int 0))])) (.cmp .Eq (.var 1) (.tup [(.cst (.int 0)), (.cst (.int 0))]))) [.ret (.cmp .Eq (.var 0) (.var 1))] [],
   .ife (.cmp .NotEq (.cmp .Gt (.ix (.var 0) (.cst (.int 0))) (.cst (.int 0))) (.cmp .Gt (.ix (.var 1) (.cst (.int 0))) (.cst (.int 0)))) [.ret (.cst (.bl false))] [],
   .asg (.tup [(.var 2), (.var 3)]) (.tup [(.tup [(.b1 .abs (.ix (.var 0) (.cst (.int 0)))), (.ix (.var 0) (.cst (.int 1)))]), (.tup [(.b1 .abs (.ix (.var 1) (.cst (.int 0)))), (.ix (.var 1) (.cst (.int 1)))])]),
   .ret (.and (.cmp .LtE (.ix (.call 28 [(.var 2), (.tup [(.ix (.var 3) (.cst (.int 0))), (.bin .Add (.ix (.var 3) (.cst (.int 1))) (.cst (.int 1)))])]) (.cst (.int 0))) (.cst (.int 0))) (.cmp .LtE (.ix (.call 28 [(.var 3), (.tup [(.ix (.var 2) (.cst (.int 0))), (.bin .Add (.ix (.var 2) (.cst (.int 1))) (.cst (.int 1)))])]) (.cst (.int 0))) (.cst (.int 0))))]⟩
def d41 : Fd := ⟨⟨#[95, 108, 97, 119, 95, 105, 115, 95, 117, 110, 102, 105, 116]⟩, [⟨#[112]⟩, ⟨#[111, 110, 101]⟩, ⟨#[105, 115, 95, 110, 97, 109, 101, 100]⟩], [⟨#[112]⟩, ⟨#[111, 110, 101]⟩, ⟨#[105, 115, 95, 110, 97, 109, 101, 100]⟩, ⟨#[101, 114, 114, 111, 114]⟩],
  [.try [.ife (.var 2) [.exp (.callK 12 0 [0, 1] [(.var 0), (.var 1)])] [.exp (.call 12 [(.var 0), (.var 1)])]] 0 [0, 1, 2, 3, 4, 5, 6, 7] 3 [.ife (.or (.isE 3 [2] [2] true) (.or (.isE 3 [3] [3] true) (.isE 3 [4] [4] true))) [.ret (.cst (.bl false))] [], .ife (.or (.isE 3 [5] [5] true) (.or (.isE 3 [6] [6] true) (.isE 3 [7] [7] true))) [.ret (.cst (.bl false))] [], .ret (.and (.isE 3 [1] [1] true) (.isE 3 [0, 1, 2, 3, 4, 5, 6, 7, 8] [8] true))],
   .ret (.cst (.bl false))]⟩
def d42 : Fd := ⟨⟨#[95, 108, 97, 119, 95, 97, 114, 101, 95, 102, 105, 116, 115, 95, 114, 105, 103, 104, 116]⟩, [⟨#[112]⟩, ⟨#[111, 110, 101]⟩, ⟨#[111, 116, 104, 101, 114]⟩], [⟨#[112]⟩, ⟨#[111, 110, 101]⟩, ⟨#[111, 116, 104, 101, 114]⟩, ⟨#[98, 97, 99, 107]⟩, ⟨#[116, 111, 108, 100]⟩, ⟨#[100, 117, 101]⟩, ⟨#[109, 111, 114, 101]⟩],
  [.asg (.tup [(.var 5), (.var 6)]) (.tup [(.call 39 [(.var 0), (.call 28 [(.var 1), (.var 2)])]), (.call 39 [(.var 0), (.call 27 [(.var 1), (.var 2)])])]),
   .asg (.var 3) (.call 31 [(.var 2)]),
   .asg (.var 4) (.tup [(.call 10 [(.var 0), (.var 1), (.var 2)]), (.callK 10 0 [0, 1, 2] [(.var 0), (.var 2), (.var 1)]), (.call 11 [(.var 0), (.var 1), (.var 3)])]),
   .ife (.not (.call 30 [(.var 4), (.tup [(.var 5), (.var 5), (.var 5)])])) [.ret (.cst (.bl false))] [],
   .asg (.var 4) (.tup [(.call 11 [(.var 0), (.var 1), (.var 2)]), (.callK 11 0 [0, 1, 2] [(.var 0), (.var 2), (.var 1)]), (.call 10 [(.var 0), (.var 1), (.var 3)])]),
   .ife (.not (.call 30 [(.var 4), (.tup [(.var 6), (.var 6), (.var 6)])])) [.ret (.cst (.bl false))] [],
   .ret (.call 30 [(.call 11 [(.var 0), (.var 1), (.var 1)]), (.call 39 [(.var 0), (.var 1)])])]⟩
def d43 : Fd := ⟨⟨#[95, 108, 97, 119, 95, 105, 115, 95, 112, 97, 105, 114, 95, 114, 105, 103, 104, 116]⟩, [⟨#[112]⟩, ⟨#[111, 110, 101]⟩, ⟨#[111, 116, 104, 101, 114]⟩], [⟨#[112]⟩, ⟨#[111, 110, 101]⟩, ⟨#[111, 116, 104, 101, 114]⟩, ⟨#[100, 117, 101]⟩, ⟨#[114, 101, 115, 116]⟩, ⟨#[119, 111, 114, 100]⟩],
  [.asg (.var 3) (.call 40 [(.var 1), (.var 2)]),
   .ife (.not (.call 30 [(.tup [(.call 9 [(.var 1), (.var 2)]), (.callK 9 0 [0, 1] [(.var 2), (.var 1)])]), (.tup [(.var 3), (.var 3)])])) [.ret (.cst (.bl false))] [],
   .ife (.not (.call 42 [(.var 0), (.var 1), (.var 2)])) [.ret (.cst (.bl false))] [],
   .asg (.var 4) (.call 28 [(.var 1), (.var 2)]),
   .ife (.not (.call 30 [(.call 4 [(.var 1), (.var 2)]), (.var 4)])) [.ret (.cst (.bl false))] [],
   .for (.var 5) (.sq (.lst [(.cst (.str ⟨#[100, 111, 119, 110]⟩)), (.cst (.str ⟨#[110, 101, 97, 114]⟩)), (.cst (.str ⟨#[111, 100, 100]⟩)), (.cst (.str ⟨#[117, 112]⟩)), (.cst (.str ⟨#[122, 101, 114, 111]⟩))])) [.ife (.not (.call 30 [(.call 19 [(.var 0), (.var 5), (.var 1), (.var 2)]), (.call 29 [(.var 0), (.var 5), (.var 4)])])) [.ret (.cst (.bl false))] []],
   .ret (.cst (.bl true))]⟩
def d44 : Fd := ⟨⟨#[95, 108, 97, 119, 95, 97, 114, 101, 95, 101, 110, 100, 115, 95, 114, 105, 103, 104, 116]⟩, [⟨#[112]⟩, ⟨#[111, 110, 101]⟩], [⟨#[112]⟩, ⟨#[111, 110, 101]⟩, ⟨#[100, 117, 101]⟩, ⟨#[101, 110, 100]⟩, ⟨#[104, 97, 108, 102]⟩, ⟨#[116, 119, 105, 99, 101]⟩],
  [.ife (.or (.cmp .Eq (.var 1) (.tup [(.cst (.int 0)), (.cst (.int 0))])) (.not (.call 39 [(.var 0), (.var 1)]))) [.ret (.and (.call 41 [(.var 0), (.var 1), (.cst (.bl false))]) (.call 41 [(.var 0), (.var 1), (.cst (.bl true))]))] [],
   .asg (.tup [(.var 4), (.var 5)]) (.tup [(.tup [(.ix (.var 1) (.cst (.int 0))), (.bin .Sub (.ix (.var 1) (.cst (.int 1))) (.cst (.int 1)))]), (.tup [(.ix (.var 1) (.cst (.int 0))), (.bin .Add (.ix (.var 1) (.cst (.int 1))) (.cst (.int 1)))])]),
   .asg (.var 2) (.ife (.cmp .Gt (.ix (.var 1) (.cst (.int 0))) (.cst (.int 0))) (.tup [(.var 4), (.var 5)]) (.tup [(.var 5), (.var 4)])),
   .ife (.or (.not (.call 30 [(.call 12 [(.var 0), (.var 1)]), (.var 2)])) (.not (.call 30 [(.callK 12 0 [0, 1] [(.var 0), (.var 1)]), (.var 2)]))) [.ret (.cst (.bl false))] [],
   .for (.var 3) (.sq (.var 2)) [.ife (.or (.cmp .IsNot (.call 9 [(.var 1), (.var 3)]) (.cst (.bl true))) (.cmp .IsNot (.call 9 [(.var 3), (.var 1)]) (.cst (.bl true)))) [.ret (.cst (.bl false))] []],
   .ret (.call 30 [(.tup [(.call 15 [(.var 0), (.ix (.var 2) (.cst (.int 0))), (.ix (.var 2) (.cst (.int 1)))]), (.call 15 [(.var 0), (.ix (.var 2) (.cst (.int 1))), (.ix (.var 2) (.cst (.int 0)))])]), (.tup [(.bin .LShift (.cst (.int 1)) (.var 0)), (.bin .LShift (.cst (.int 1)) (.var 0))])])]⟩
def d45 : Fd := ⟨⟨#[95, 108, 97, 119, 95, 97, 114, 101, 95, 119, 105, 100, 116, 104, 115, 95, 114, 105, 103, 104, 116]⟩, [⟨#[111, 110, 101]⟩, ⟨#[115, 105, 122, 101]⟩, ⟨#[97, 116]⟩, ⟨#[107]⟩], [⟨#[111, 110, 101]⟩, ⟨#[115, 105, 122, 101]⟩, ⟨#[97, 116]⟩, ⟨#[107]⟩, ⟨#[112]⟩, ⟨#[99, 117, 116]⟩, ⟨#[120]⟩, ⟨#[121]⟩],
  [.for (.var 4) (.rng (some (.cst (.int 2))) (.cst (.int 25))) [.for (.var 5) (.sq (.lst [(.bin .Sub (.cst (.int 24)) (.var 4)), (.bin .Sub (.cst (.int 25)) (.var 4))])) [.ife (.not (.call 42 [(.var 4), (.call 27 [(.var 0), (.tup [(.bin .BitOr (.bin .RShift (.var 1) (.var 5)) (.cst (.int 1))), (.var 2)])]), (.var 0)])) [.ret (.cst (.bl false))] []], .asg (.tup [(.var 6), (.var 7)]) (.tup [(.tup [(.cst (.int 1)), (.bin .Add (.var 3) (.cst (.int 2)))]), (.tup [(.bin .Sub (.bin .LShift (.cst (.int 1)) (.var 4)) (.cst (.int 1))), (.bin .Sub (.bin .Add (.var 3) (.cst (.int 1))) (.var 4))])]), .ife (.or (.not (.call 30 [(.call 13 [(.var 4), (.var 3)]), (.tup [(.var 6), (.var 7)])])) (.not (.call 30 [(.callK 13 0 [0, 1] [(.var 4), (.var 3)]), (.tup [(.var 6), (.var 7)])]))) [.ret (.cst (.bl false))] [], .ife (.not (.call 30 [(.tup [(.call 10 [(.var 4), (.var 6), (.var 7)]), (.call 10 [(.var 4), (.var 7), (.var 6)])]), (.tup [(.cst (.bl false)), (.cst (.bl false))])])) [.ret (.cst (.bl false))] [], .ife (.not (.call 30 [(.tup [(.call 9 [(.var 6), (.var 7)]), (.call 9 [(.var 7), (.var 6)])]), (.tup [(.cst (.bl false)), (.cst (.bl false))])])) [.ret (.cst (.bl false))] []],
   .ret (.cst (.bl true))]⟩
def d46 : Fd := ⟨⟨#[95, 108, 97, 119, 95, 97, 114, 101, 95, 101, 120, 97, 109, 112, 108, 101, 115, 95, 114, 105, 103, 104, 116]⟩, [], [⟨#[115, 111, 109, 101]⟩, ⟨#[116, 111, 108, 100]⟩, ⟨#[111, 110, 101]⟩, ⟨#[111, 116, 104, 101, 114]⟩],
  [.asg (.var 0) (.lst [(.tup [(.tup [(.cst (.int 1)), (.cst (.int 1))]), (.tup [(.cst (.int 1)), (.cst (.int 0))])]), (.tup [(.tup [(.cst (.int 5)), (.cst (.int 0))]), (.tup [(.cst (.int 1)), (.cst (.int 1))])]), (.tup [(.tup [(.neg (.cst (.int 3))), (.cst (.int 0))]), (.tup [(.neg (.cst (.int 3))), (.cst (.int 1))])]), (.tup [(.tup [(.cst (.int 3)), (.cst (.int 0))]), (.tup [(.neg (.cst (.int 3))), (.cst (.int 0))])]), (.tup [(.tup [(.cst (.int 0)), (.cst (.int 0))]), (.tup [(.cst (.int 0)), (.cst (.int 0))])]), (.tup [(.tup [(.cst (.int 0)), (.cst (.int 0))]), (.tup [(.cst (.int 1)), (.cst (.int 0))])])]),
   .asg (.var 1) (.b1 .tuple (.lc (.call 9 [(.var 2), (.var 3)]) (.tup [(.var 2), (.var 3)]) (.sq (.var 0)) none [2, 3])),
   .ife (.not (.call 30 [(.var 1), (.tup [(.cst (.bl true)), (.cst (.bl false)), (.cst (.bl true)), (.cst (.bl false)), (.cst (.bl true)), (.cst (.bl false))])])) [.ret (.cst (.bl false))] [],
   .asg (.var 0) (.lst [(.tup [(.tup [(.cst (.int 7)), (.cst (.int 0))]), (.tup [(.cst (.int 1)), (.cst (.int 2))])]), (.tup [(.tup [(.cst (.int 1)), (.cst (.int 2))]), (.tup [(.cst (.int 7)), (.neg (.cst (.int 2)))])]), (.tup [(.tup [(.cst (.int 5)), (.cst (.int 0))]), (.tup [(.cst (.int 7)), (.cst (.int 1))])]), (.tup [(.tup [(.cst (.int 3)), (.cst (.int 0))]), (.tup [(.neg (.cst (.int 7))), (.cst (.int 1))])])]),
   .asg (.var 1) (.b1 .tuple (.lc (.call 10 [(.cst (.int 3)), (.var 2), (.var 3)]) (.tup [(.var 2), (.var 3)]) (.sq (.var 0)) none [2, 3])),
   .ife (.not (.call 30 [(.var 1), (.tup [(.cst (.bl true)), (.cst (.bl false)), (.cst (.bl false)), (.cst (.bl false))])])) [.ret (.cst (.bl false))] [],
   .asg (.var 1) (.tup [(.call 11 [(.cst (.int 3)), (.tup [(.cst (.int 7)), (.cst (.int 0))]), (.tup [(.cst (.int 1)), (.cst (.int 0))])]), (.call 11 [(.cst (.int 3)), (.tup [(.cst (.int 7)), (.cst (.int 0))]), (.tup [(.cst (.int 1)), (.cst (.int 1))])]), (.call 12 [(.cst (.int 3)), (.tup [(.cst (.int 5)), (.cst (.int 0))])]), (.call 12 [(.cst (.int 3)), (.tup [(.neg (.cst (.int 7))), (.cst (.int 2))])])]),
   .ife (.not (.call 30 [(.var 1), (.tup [(.cst (.bl true)), (.cst (.bl false)), (.tup [(.tup [(.cst (.int 5)), (.neg (.cst (.int 1)))]), (.tup [(.cst (.int 5)), (.cst (.int 1))])]), (.tup [(.tup [(.neg (.cst (.int 7))), (.cst (.int 3))]), (.tup [(.neg (.cst (.int 7))), (.cst (.int 1))])])])])) [.ret (.cst (.bl false))] [],
   .ret (.and (.call 30 [(.call 13 [(.cst (.int 3)), (.cst (.int 0))]), (.tup [(.tup [(.cst (.int 1)), (.cst (.int 2))]), (.tup [(.cst (.int 7)), (.neg (.cst (.int 2)))])])]) (.call 41 [(.cst (.int 3)), (.tup [(.cst (.int 9)), (.cst (.int 0))]), (.cst (.bl false))]))]⟩
def d47 : Fd := ⟨⟨#[108, 97, 119]⟩, [⟨#[115, 99, 114, 105, 112, 116]⟩], [⟨#[115, 99, 114, 105, 112, 116]⟩, ⟨#[98, 97, 103]⟩, ⟨#[116, 117, 114, 110]⟩, ⟨#[112]⟩, ⟨#[98, 101, 121, 111, 110, 100]⟩, ⟨#[101, 110, 100, 115]⟩, ⟨#[97, 116]⟩, ⟨#[107]⟩, ⟨#[116, 117, 114, 110, 115]⟩, ⟨#[100, 111, 117, 98, 108, 101, 115]⟩, ⟨#[112, 97, 105, 114]⟩, ⟨#[119, 105, 100, 101]⟩, ⟨#[115, 105, 122, 101]⟩, ⟨#[111, 110, 101]⟩, ⟨#[111, 116, 104, 101, 114]⟩],
  [.asg (.var 1) (.call 20 [(.var 0)]),
   .par3 8 true (.lst []) 5 true (.lst []) 9 true (.lst []),
   .for (.var 2) (.rng none (.cst (.int 8))) [.asg (.var 3) (.call 24 [(.var 1)]), .asg (.var 10) (.call 38 [(.var 1), (.var 3), (.var 2)]), .app 8 (.tup [(.var 3), (.ix (.var 10) (.cst (.int 0))), (.ix (.var 10) (.cst (.int 1)))]), .app 5 (.tup [(.var 3), (.call 33 [(.var 1), (.var 3)])])],
   .asg (.var 3) (.call 24 [(.var 1)]),
   .asg (.var 4) (.bin .Add (.bin .Mult (.cst (.int 2)) (.call 23 [(.var 1), (.var 3)])) (.cst (.int 1))),
   .own 5 (.bin .Add (.var 5) (.lst [(.tup [(.var 3), (.tup [(.cst (.int 0)), (.cst (.int 0))])]), (.tup [(.var 3), (.tup [(.var 4), (.call 25 [(.var 1)])])]), (.tup [(.var 3), (.call 33 [(.var 1), (.cst (.int 200))])]), (.tup [(.var 3), (.tup [(.bin .Sub (.var 4) (.cst (.int 2))), (.cst (.int 0))])])])),
   .asg (.tup [(.var 11), (.var 12)]) (.tup [(.call 34 [(.var 1), (.cst (.int 24)), (.cst (.int 100))]), (.call 23 [(.var 1), (.cst (.int 25))])]),
   .asg (.var 6) (.bin .Sub (.bin .Add (.ix (.var 11) (.cst (.int 1))) (.call 21 [(.var 1), (.cst (.int 61))])) (.cst (.int 30))),
   .for (.var 2) (.rng none (.cst (.int 6))) [.asg (.var 13) (.call 34 [(.var 1), (.cst (.int 24)), (.cst (.int 100))]), .app 9 (.tup [(.var 13), (.call 35 [(.var 1), (.var 13)])])],
   .asg (.var 7) (.ix (.lst [(.neg (.cst (.int 400))), (.cst (.int 400)), (.bin .Sub (.call 21 [(.var 1), (.cst (.int 21))]) (.cst (.int 10))), (.bin .Sub (.call 21 [(.var 1), (.cst (.int 801))]) (.cst (.int 400)))]) (.call 21 [(.var 1), (.cst (.int 4))])),
   .ife (.or (.not (.call 46 [])) (.not (.call 45 [(.var 11), (.var 12), (.var 6), (.var 7)]))) [.ret (.cst (.bl false))] [],
   .frz 9,
   .for (.tup [(.var 13), (.var 14)]) (.sq (.var 9)) [.ife (.not (.call 30 [(.tup [(.call 9 [(.var 13), (.var 14)]), (.call 9 [(.var 14), (.var 13)])]), (.bin .Mult (.tup [(.call 40 [(.var 13), (.var 14)])]) (.cst (.int 2)))])) [.ret (.cst (.bl false))] []],
   .frz 8,
   .for (.tup [(.var 3), (.var 13), (.var 14)]) (.sq (.var 8)) [.ife (.not (.call 43 [(.var 3), (.var 13), (.var 14)])) [.ret (.cst (.bl false))] []],
   .frz 5,
   .ret (.b1 .all (.lc (.call 44 [(.var 3), (.var 13)]) (.tup [(.var 3), (.var 13)]) (.sq (.var 5)) none [3, 13]))]⟩
def tab : List Fd := ([d0, d1, d2, d3, d4, d5, d6, d7, d8, d9, d10, d11, d12, d13, d14, d15, d16, d17, d18, d19, d20, d21, d22, d23, d24, d25, d26, d27, d28, d29] : List Fd) ++ ([d30, d31, d32, d33, d34, d35, d36, d37, d38, d39, d40, d41, d42, d43, d44, d45, d46, d47] : List Fd)
def bn : Bn := ⟨([⟨#[86, 97, 108, 117, 101, 69, 114, 114, 111, 114]⟩, ⟨#[97, 98, 115]⟩, ⟨#[97, 108, 108]⟩, ⟨#[98, 111, 111, 108]⟩, ⟨#[105, 110, 116]⟩, ⟨#[105, 115, 105, 110, 115, 116, 97, 110, 99, 101]⟩, ⟨#[108, 101, 110]⟩, ⟨#[108, 105, 115, 116]⟩, ⟨#[109, 97, 120]⟩, ⟨#[109, 105, 110]⟩, ⟨#[114, 97, 110, 103, 101]⟩, ⟨#[114, 101, 118, 101, 114, 115, 101, 100]⟩, ⟨#[115, 117, 112, 101, 114]⟩, ⟨#[116, 117, 112, 108, 101]⟩, ⟨#[122, 105, 112]⟩] : List Str), ([⟨⟨#[75, 101, 112, 116, 69, 114, 114, 111, 114]⟩, none, false, none, [0, 8]⟩, ⟨⟨#[85, 110, 102, 105, 116]⟩, none, true, none, [1, 0, 8]⟩, ⟨⟨#[84, 111, 111, 77, 97, 110, 121]⟩, none, true, (some ⟨#[108, 105, 109, 105, 116]⟩), [2, 0, 8]⟩, ⟨⟨#[66, 97, 100, 84, 101, 120, 116]⟩, none, true, (some ⟨#[112, 108, 97, 99, 101]⟩), [3, 0, 8]⟩, ⟨⟨#[66, 97, 100, 80, 114, 111, 103, 114, 97, 109]⟩, none, true, (some ⟨#[101, 114, 114, 111, 114]⟩), [4, 0, 8]⟩, ⟨⟨#[66, 97, 100, 76, 111, 103]⟩, none, true, (some ⟨#[112, 108, 97, 99, 101]⟩), [5, 0, 8]⟩, ⟨⟨#[82, 101, 102, 117, 115, 101, 100]⟩, none, true, (some ⟨#[119, 111, 114, 100]⟩), [6, 0, 8]⟩, ⟨⟨#[78, 111, 116, 104, 105, 110, 103, 84, 111, 85, 110, 100, 111]⟩, none, true, none, [7, 0, 8]⟩, ⟨⟨#[86, 97, 108, 117, 101, 69, 114, 114, 111, 114]⟩, some "ValueError", false, none, [8]⟩] : List Cl), none⟩
def ix : List (Str × Str × List Str × Nat) := ([(⟨#[85, 110, 102, 105, 116]⟩, ⟨#[85, 110, 102, 105, 116, 46, 95, 95, 105, 110, 105, 116, 95, 95]⟩, [⟨#[115, 101, 108, 102]⟩], 2), (⟨#[84, 111, 111, 77, 97, 110, 121]⟩, ⟨#[84, 111, 111, 77, 97, 110, 121, 46, 95, 95, 105, 110, 105, 116, 95, 95]⟩, [⟨#[115, 101, 108, 102]⟩, ⟨#[108, 105, 109, 105, 116]⟩], 3), (⟨#[66, 97, 100, 84, 101, 120, 116]⟩, ⟨#[66, 97, 100, 84, 101, 120, 116, 46, 95, 95, 105, 110, 105, 116, 95, 95]⟩, [⟨#[115, 101, 108, 102]⟩, ⟨#[112, 108, 97, 99, 101]⟩], 4), (⟨#[66, 97, 100, 80, 114, 111, 103, 114, 97, 109]⟩, ⟨#[66, 97, 100, 80, 114, 111, 103, 114, 97, 109, 46, 95, 95, 105, 110, 105, 116, 95, 95]⟩, [⟨#[115, 101, 108, 102]⟩, ⟨#[101, 114, 114, 111, 114]⟩], 5), (⟨#[66, 97, 100, 76, 111, 103]⟩, ⟨#[66, 97, 100, 76, 111, 103, 46, 95, 95, 105, 110, 105, 116, 95, 95]⟩, [⟨#[115, 101, 108, 102]⟩, ⟨#[112, 108, 97, 99, 101]⟩], 6), (⟨#[82, 101, 102, 117, 115, 101, 100]⟩, ⟨#[82, 101, 102, 117, 115, 101, 100, 46, 95, 95, 105, 110, 105, 116, 95, 95]⟩, [⟨#[115, 101, 108, 102]⟩, ⟨#[119, 111, 114, 100]⟩], 7), (⟨#[78, 111, 116, 104, 105, 110, 103, 84, 111, 85, 110, 100, 111]⟩, ⟨#[78, 111, 116, 104, 105, 110, 103, 84, 111, 85, 110, 100, 111, 46, 95, 95, 105, 110, 105, 116, 95, 95]⟩, [⟨#[115, 101, 108, 102]⟩], 8)] : List (Str × Str × List Str × Nat))
def tix : List Nat := ([10, 11, 13, 14, 15, 16, 17, 19, 20, 22, 23, 24, 25, 26, 28, 29, 31, 32, 33, 35, 37, 38, 39, 40, 41, 42, 43, 44, 45, 46, 47, 48, 49, 50, 51, 52, 53, 54, 55, 56, 57, 58, 59, 60, 61, 62, 63, 64] : List Nat)
end K06
namespace K06
open Ev PySem
abbrev P : Nat → Option Fd := fun f => tab[f]?
theorem run_def {n f : Nat} {fd : Fd} {ds : List D} {T : Sto} {η : En} (e : P f = some fd) (hl : ds.length = fd.ps.length) (hs : En.start fd.N.length ds = η) : run P (n + 1) f ds T = ended (exB (run P n) fd.body η T) := by
  rw [Ev.run, e]
  simp only
  rw [runF_ok hl, hs]
theorem c_number_of (n : Nat) (m e : Int) (T : Sto) : run P (n + 1) 0 [.int m, .int e] T = .ok (N m e) T := by
  rw [run_def (fd := d0) (η := [.val (.int m), .val (.int e), .no]) rfl rfl rfl]
  by_cases h : m = 0
  · simp [d0, exB, exS, evE, evDs, En.get, En.put, asgT, cmpW, eqW, ended, W.st, W.b?, W.i?, h, N, num, pr]
  · have ht := tz_bits h
    simp [d0, exB, exS, evE, evDs, En.get, En.put, asgT, cmpW, eqW, ended, W.st, W.b?, W.i?, h, opW, iop, intOp, addW, ht, N, num, pr]
theorem c_figures_of (n : Nat) (x : Int × Int) (T : Sto) : run P (n + 1) 1 [pr x] T = .ok (.int (bits x.1 : Nat)) T := by
  rw [run_def (fd := d1) (η := [.val (pr x)]) rfl rfl rfl]
  simp only [d1, wn, s_for2, for_n, for_c, it_sq, own_get, s_app, LL, List.cons_append, List.nil_append, x_tuple, exB_n, exB_c, e_var, e_cst, e_gfn, e_tup, e_lst, e_bin, e_neg, e_cmp, e_chain, e_and, e_or, e_not, e_ife, e_ix, e_sl, e_call, e_callK, e_b1, e_b2, e_isi, e_bits, o_n, o_s, d_n, d_c, s_asg, s_own, s_frz, s_par2, slX_t, slX_v, slX_l, s_ret, s_retN, s_if, s_brk, s_cnt, s_exp, t_var, t_tup, t_n, t_c, ended_rt, ended_nx, get_0, get_s, put_0, put_s, Re.bind_ok, Re.st_ok, Re.of_some, SR.bind_nx, SR.bind_rt, W.st_v, W.st_t, W.i?_int, W.b?_bl, List.length_cons, List.length_nil, Nat.zero_add, Nat.reduceAdd, Nat.reduceLT, ↓reduceIte, if_true, if_false, Bool.false_eq_true, Bool.false_and, Bool.and_false, Bool.true_or, Bool.or_true, Bool.true_and, Bool.and_true, Bool.false_or, Bool.or_false, x_pr0, x_abs, bits_abs]
theorem c_opposite (n : Nat) (x : Int × Int) (T : Sto) : run P (n + 1) 2 [pr x] T = .ok (pr (-x.1, x.2)) T := by
  rw [run_def (fd := d2) (η := [.val (pr x)]) rfl rfl rfl]
  simp only [d2, wn, s_for2, for_n, for_c, it_sq, own_get, s_app, LL, List.cons_append, List.nil_append, x_tuple, exB_n, exB_c, e_var, e_cst, e_gfn, e_tup, e_lst, e_bin, e_neg, e_cmp, e_chain, e_and, e_or, e_not, e_ife, e_ix, e_sl, e_call, e_callK, e_b1, e_b2, e_isi, e_bits, o_n, o_s, d_n, d_c, s_asg, s_own, s_frz, s_par2, slX_t, slX_v, slX_l, s_ret, s_retN, s_if, s_brk, s_cnt, s_exp, t_var, t_tup, t_n, t_c, ended_rt, ended_nx, get_0, get_s, put_0, put_s, Re.bind_ok, Re.st_ok, Re.of_some, SR.bind_nx, SR.bind_rt, W.st_v, W.st_t, W.i?_int, W.b?_bl, List.length_cons, List.length_nil, Nat.zero_add, Nat.reduceAdd, Nat.reduceLT, ↓reduceIte, if_true, if_false, Bool.false_eq_true, Bool.false_and, Bool.and_false, Bool.true_or, Bool.or_true, Bool.true_and, Bool.and_true, Bool.false_or, Bool.or_false, x_pr0, x_pr1, pr_tup]
theorem c_opposite_N (n : Nat) (x b : Int) (T : Sto) : run P (n + 1) 2 [N x b] T = .ok (N (-x) b) T := by
  show run P (n + 1) 2 [pr (num x b)] T = .ok (pr (num (-x) b)) T
  rw [c_opposite, num_neg]
theorem c_exact_sum_raw (n : Nat) (a c : Int × Int) (T : Sto) (h1 : 0 ≤ a.2 - low2 a c) (h2 : (bits a.1 : Int) + (a.2 - low2 a c) ≤ 100000000) (h3 : 0 ≤ c.2 - low2 a c) (h4 : (bits c.1 : Int) + (c.2 - low2 a c) ≤ 100000000) :
    run P (n + 2) 3 [pr a, pr c] T = .ok (N (a.1 * 2 ^ (a.2 - low2 a c).toNat + c.1 * 2 ^ (c.2 - low2 a c).toNat) (low2 a c)) T := by
  rw [run_def (fd := d3) (η := [.val (pr a), .val (pr c), .no]) rfl rfl rfl]
  have e : (if c.2 < a.2 then c.2 else a.2) = low2 a c := rfl
  generalize low2 a c = l at *
  simp (disch := omega) only [d3, wn, s_for2, for_n, for_c, it_sq, own_get, s_app, LL, List.cons_append, List.nil_append, x_tuple, exB_n, exB_c, e_var, e_cst, e_gfn, e_tup, e_lst, e_bin, e_neg, e_cmp, e_chain, e_and, e_or, e_not, e_ife, e_ix, e_sl, e_call, e_callK, e_b1, e_b2, e_isi, e_bits, o_n, o_s, d_n, d_c, s_asg, s_own, s_frz, s_par2, slX_t, slX_v, slX_l, s_ret, s_retN, s_if, s_brk, s_cnt, s_exp, t_var, t_tup, t_n, t_c, ended_rt, ended_nx, get_0, get_s, put_0, put_s, Re.bind_ok, Re.st_ok, Re.of_some, SR.bind_nx, SR.bind_rt, W.st_v, W.st_t, W.i?_int, W.b?_bl, List.length_cons, List.length_nil, Nat.zero_add, Nat.reduceAdd, Nat.reduceLT, ↓reduceIte, if_true, if_false, Bool.false_eq_true, Bool.false_and, Bool.and_false, Bool.true_or, Bool.or_true, Bool.true_and, Bool.and_true, Bool.false_or, Bool.or_false, x_pr0, x_pr1, x_min, i_add, i_sub, i_shl, e, c_number_of]
theorem c_exact_sum (n : Nat) (x y b : Int) (T : Sto) (hx : Sm x b) (hy : Sm y b) : run P (n + 2) 3 [N x b, N y b] T = .ok (N (x + y) b) T := by
  obtain ⟨h1, h2, h3, h4⟩ := sm_shift rfl rfl hx hy
  refine (c_exact_sum_raw n _ _ T h1 h2 h3 h4).trans ?_
  show Re.ok (pr _) T = .ok (pr _) T
  rw [num_add]
theorem c_exact_less (n : Nat) (x y b : Int) (T : Sto) (hx : Sm x b) (hy : Sm y b) : run P (n + 3) 4 [N x b, N y b] T = .ok (N (x - y) b) T := by
  have h := c_exact_sum n x (-y) b T hx hy.neg
  rw [run_def (fd := d4) (η := [.val (N x b), .val (N y b)]) rfl rfl rfl]
  simp only [d4, wn, s_for2, for_n, for_c, it_sq, own_get, s_app, LL, List.cons_append, List.nil_append, x_tuple, exB_n, exB_c, e_var, e_cst, e_gfn, e_tup, e_lst, e_bin, e_neg, e_cmp, e_chain, e_and, e_or, e_not, e_ife, e_ix, e_sl, e_call, e_callK, e_b1, e_b2, e_isi, e_bits, o_n, o_s, d_n, d_c, s_asg, s_own, s_frz, s_par2, slX_t, slX_v, slX_l, s_ret, s_retN, s_if, s_brk, s_cnt, s_exp, t_var, t_tup, t_n, t_c, ended_rt, ended_nx, get_0, get_s, put_0, put_s, Re.bind_ok, Re.st_ok, Re.of_some, SR.bind_nx, SR.bind_rt, W.st_v, W.st_t, W.i?_int, W.b?_bl, List.length_cons, List.length_nil, Nat.zero_add, Nat.reduceAdd, Nat.reduceLT, ↓reduceIte, if_true, if_false, Bool.false_eq_true, Bool.false_and, Bool.and_false, Bool.true_or, Bool.or_true, Bool.true_and, Bool.and_true, Bool.false_or, Bool.or_false, c_opposite_N, h, Int.sub_eq_add_neg]
theorem c_fits (n : Nat) (p : Nat) (x : Int × Int) (T : Sto) : run P (n + 2) 7 [.int p, pr x] T = .ok (.bl (decide (bits x.1 ≤ p))) T := by
  rw [run_def (fd := d7) (η := [.val (.int p), .val (pr x)]) rfl rfl rfl]
  simp only [d7, wn, s_for2, for_n, for_c, it_sq, own_get, s_app, LL, List.cons_append, List.nil_append, x_tuple, exB_n, exB_c, e_var, e_cst, e_gfn, e_tup, e_lst, e_bin, e_neg, e_cmp, e_chain, e_and, e_or, e_not, e_ife, e_ix, e_sl, e_call, e_callK, e_b1, e_b2, e_isi, e_bits, o_n, o_s, d_n, d_c, s_asg, s_own, s_frz, s_par2, slX_t, slX_v, slX_l, s_ret, s_retN, s_if, s_brk, s_cnt, s_exp, t_var, t_tup, t_n, t_c, ended_rt, ended_nx, get_0, get_s, put_0, put_s, Re.bind_ok, Re.st_ok, Re.of_some, SR.bind_nx, SR.bind_rt, W.st_v, W.st_t, W.i?_int, W.b?_bl, List.length_cons, List.length_nil, Nat.zero_add, Nat.reduceAdd, Nat.reduceLT, ↓reduceIte, if_true, if_false, Bool.false_eq_true, Bool.false_and, Bool.and_false, Bool.true_or, Bool.or_true, Bool.true_and, Bool.and_true, Bool.false_or, Bool.or_false, c_figures_of, c_le, Int.ofNat_le]
theorem c_is_raised (n : Nat) (w : Str) (q s : Int) (neg : Bool) (T : Sto) : run P (n + 1) 16 [.str w, .int q, .int s, .bl neg] T = .ok (.bl (upW w q s neg)) T := by
  rw [run_def (fd := d16) (η := [.val (.str w), .val (.int q), .val (.int s), .val (.bl neg)]) rfl rfl rfl]
  have e1 : (⟨#[110, 101, 97, 114]⟩ : Str) = wNear := rfl
  have e2 : (⟨#[111, 100, 100]⟩ : Str) = wOdd := rfl
  have e3 : (⟨#[100, 111, 119, 110]⟩ : Str) = wDown := rfl
  have e4 : (⟨#[117, 112]⟩ : Str) = wUp := rfl
  unfold upW
  by_cases h1 : w = wNear
  · by_cases h2 : 0 < s
    · simp (disch := omega) only [d16, wn, s_for2, for_n, for_c, it_sq, own_get, s_app, LL, List.cons_append, List.nil_append, x_tuple, exB_n, exB_c, e_var, e_cst, e_gfn, e_tup, e_lst, e_bin, e_neg, e_cmp, e_chain, e_and, e_or, e_not, e_ife, e_ix, e_sl, e_call, e_callK, e_b1, e_b2, e_isi, e_bits, o_n, o_s, d_n, d_c, s_asg, s_own, s_frz, s_par2, slX_t, slX_v, slX_l, s_ret, s_retN, s_if, s_brk, s_cnt, s_exp, t_var, t_tup, t_n, t_c, ended_rt, ended_nx, get_0, get_s, put_0, put_s, Re.bind_ok, Re.st_ok, Re.of_some, SR.bind_nx, SR.bind_rt, W.st_v, W.st_t, W.i?_int, W.b?_bl, List.length_cons, List.length_nil, Nat.zero_add, Nat.reduceAdd, Nat.reduceLT, ↓reduceIte, if_true, if_false, Bool.false_eq_true, Bool.false_and, Bool.and_false, Bool.true_or, Bool.or_true, Bool.true_and, Bool.and_true, Bool.false_or, Bool.or_false, e1, c_eqs, c_gt, c_eq, x_int, i_mod, h1, h2, decide_true, Bool.true_or]
    · by_cases h3 : s = 0
      · simp (disch := omega) only [d16, wn, s_for2, for_n, for_c, it_sq, own_get, s_app, LL, List.cons_append, List.nil_append, x_tuple, exB_n, exB_c, e_var, e_cst, e_gfn, e_tup, e_lst, e_bin, e_neg, e_cmp, e_chain, e_and, e_or, e_not, e_ife, e_ix, e_sl, e_call, e_callK, e_b1, e_b2, e_isi, e_bits, o_n, o_s, d_n, d_c, s_asg, s_own, s_frz, s_par2, slX_t, slX_v, slX_l, s_ret, s_retN, s_if, s_brk, s_cnt, s_exp, t_var, t_tup, t_n, t_c, ended_rt, ended_nx, get_0, get_s, put_0, put_s, Re.bind_ok, Re.st_ok, Re.of_some, SR.bind_nx, SR.bind_rt, W.st_v, W.st_t, W.i?_int, W.b?_bl, List.length_cons, List.length_nil, Nat.zero_add, Nat.reduceAdd, Nat.reduceLT, ↓reduceIte, if_true, if_false, Bool.false_eq_true, Bool.false_and, Bool.and_false, Bool.true_or, Bool.or_true, Bool.true_and, Bool.and_true, Bool.false_or, Bool.or_false, e1, c_eqs, c_gt, c_eq, x_int, i_mod, h1, h2, h3, decide_true, decide_false, Bool.false_or, Bool.true_and, Int.lt_irrefl]
      · simp (disch := omega) only [d16, wn, s_for2, for_n, for_c, it_sq, own_get, s_app, LL, List.cons_append, List.nil_append, x_tuple, exB_n, exB_c, e_var, e_cst, e_gfn, e_tup, e_lst, e_bin, e_neg, e_cmp, e_chain, e_and, e_or, e_not, e_ife, e_ix, e_sl, e_call, e_callK, e_b1, e_b2, e_isi, e_bits, o_n, o_s, d_n, d_c, s_asg, s_own, s_frz, s_par2, slX_t, slX_v, slX_l, s_ret, s_retN, s_if, s_brk, s_cnt, s_exp, t_var, t_tup, t_n, t_c, ended_rt, ended_nx, get_0, get_s, put_0, put_s, Re.bind_ok, Re.st_ok, Re.of_some, SR.bind_nx, SR.bind_rt, W.st_v, W.st_t, W.i?_int, W.b?_bl, List.length_cons, List.length_nil, Nat.zero_add, Nat.reduceAdd, Nat.reduceLT, ↓reduceIte, if_true, if_false, Bool.false_eq_true, Bool.false_and, Bool.and_false, Bool.true_or, Bool.or_true, Bool.true_and, Bool.and_true, Bool.false_or, Bool.or_false, e1, c_eqs, c_gt, c_eq, x_int, i_mod, h1, h2, h3, decide_true, decide_false, Bool.false_or, Bool.false_and]
  · by_cases h2 : w = wOdd
    · have h3 : wOdd ≠ wNear := by decide
      simp (disch := omega) only [d16, wn, s_for2, for_n, for_c, it_sq, own_get, s_app, LL, List.cons_append, List.nil_append, x_tuple, exB_n, exB_c, e_var, e_cst, e_gfn, e_tup, e_lst, e_bin, e_neg, e_cmp, e_chain, e_and, e_or, e_not, e_ife, e_ix, e_sl, e_call, e_callK, e_b1, e_b2, e_isi, e_bits, o_n, o_s, d_n, d_c, s_asg, s_own, s_frz, s_par2, slX_t, slX_v, slX_l, s_ret, s_retN, s_if, s_brk, s_cnt, s_exp, t_var, t_tup, t_n, t_c, ended_rt, ended_nx, get_0, get_s, put_0, put_s, Re.bind_ok, Re.st_ok, Re.of_some, SR.bind_nx, SR.bind_rt, W.st_v, W.st_t, W.i?_int, W.b?_bl, List.length_cons, List.length_nil, Nat.zero_add, Nat.reduceAdd, Nat.reduceLT, ↓reduceIte, if_true, if_false, Bool.false_eq_true, Bool.false_and, Bool.and_false, Bool.true_or, Bool.or_true, Bool.true_and, Bool.and_true, Bool.false_or, Bool.or_false, e1, e2, c_eqs, c_eq, x_int, i_mod, h2, h3, decide_true, decide_false]
    · cases neg
      · simp (disch := omega) only [d16, wn, s_for2, for_n, for_c, it_sq, own_get, s_app, LL, List.cons_append, List.nil_append, x_tuple, exB_n, exB_c, e_var, e_cst, e_gfn, e_tup, e_lst, e_bin, e_neg, e_cmp, e_chain, e_and, e_or, e_not, e_ife, e_ix, e_sl, e_call, e_callK, e_b1, e_b2, e_isi, e_bits, o_n, o_s, d_n, d_c, s_asg, s_own, s_frz, s_par2, slX_t, slX_v, slX_l, s_ret, s_retN, s_if, s_brk, s_cnt, s_exp, t_var, t_tup, t_n, t_c, ended_rt, ended_nx, get_0, get_s, put_0, put_s, Re.bind_ok, Re.st_ok, Re.of_some, SR.bind_nx, SR.bind_rt, W.st_v, W.st_t, W.i?_int, W.b?_bl, List.length_cons, List.length_nil, Nat.zero_add, Nat.reduceAdd, Nat.reduceLT, ↓reduceIte, if_true, if_false, Bool.false_eq_true, Bool.false_and, Bool.and_false, Bool.true_or, Bool.or_true, Bool.true_and, Bool.and_true, Bool.false_or, Bool.or_false, e1, e2, e3, e4, c_eqs, c_eq, h1, h2, decide_false]
      · simp (disch := omega) only [d16, wn, s_for2, for_n, for_c, it_sq, own_get, s_app, LL, List.cons_append, List.nil_append, x_tuple, exB_n, exB_c, e_var, e_cst, e_gfn, e_tup, e_lst, e_bin, e_neg, e_cmp, e_chain, e_and, e_or, e_not, e_ife, e_ix, e_sl, e_call, e_callK, e_b1, e_b2, e_isi, e_bits, o_n, o_s, d_n, d_c, s_asg, s_own, s_frz, s_par2, slX_t, slX_v, slX_l, s_ret, s_retN, s_if, s_brk, s_cnt, s_exp, t_var, t_tup, t_n, t_c, ended_rt, ended_nx, get_0, get_s, put_0, put_s, Re.bind_ok, Re.st_ok, Re.of_some, SR.bind_nx, SR.bind_rt, W.st_v, W.st_t, W.i?_int, W.b?_bl, List.length_cons, List.length_nil, Nat.zero_add, Nat.reduceAdd, Nat.reduceLT, ↓reduceIte, if_true, if_false, Bool.false_eq_true, Bool.false_and, Bool.and_false, Bool.true_or, Bool.or_true, Bool.true_and, Bool.and_true, Bool.false_or, Bool.or_false, e1, e2, e3, e4, c_eqs, c_eq, h1, h2, decide_false]
theorem c_rounded_quotient (n p : Nat) (w : Str) (m : Int) (T : Sto) (hp : 1 ≤ p) (hp2 : p ≤ 4000) (h : p < bits m) (hm : bits m ≤ 10000000) : run P (n + 2) 17 [.int p, .str w, .int m, .int 1] T = .ok (N (rnq p w m) (cutK p m)) T := by
  have h0 : m ≠ 0 := fun z => by
    subst z
    rw [bits_zero] at h
    omega
  have hb1 : ((bits 1 : Nat) : Int) = 1 := by decide
  have ha : (2 : Int) ^ (bits m - 1) ≤ (if m < 0 then -m else m) := abs_ge_bits (by omega)
  have hpk := pow_pos2 (cutK p m)
  have hbk : bits (2 ^ cutK p m : Int) = cutK p m + 1 := bits_two_pow
  have hck2 : bits m = cutK p m + p := by unfold cutK; omega
  have hck : 1 ≤ cutK p m := by unfold cutK; omega
  have hq : rnQ p w m = (if 0 < (if m < 0 then -m else m) % 2 ^ cutK p m ∧ upW w ((if m < 0 then -m else m) / 2 ^ cutK p m) (2 * ((if m < 0 then -m else m) % 2 ^ cutK p m) - 2 ^ cutK p m) (decide (m < 0)) = true then (if m < 0 then -m else m) / 2 ^ cutK p m + 1 else (if m < 0 then -m else m) / 2 ^ cutK p m) := rfl
  have hba : bits (if m < 0 then -m else m) = bits m := bits_abs
  unfold rnq
  rw [hq]
  generalize hA : (if m < 0 then -m else m) = A at *
  generalize cutK p m = K at *
  have f1 : (if -((bits A : Int) - 1) > 0 then -((bits A : Int) - 1) else 0) = 0 := by rw [if_neg]; omega
  have f2 : (if ((bits A : Int) - 1) > 0 then ((bits A : Int) - 1) else 0) = (bits A : Int) - 1 := by split <;> omega
  have f3 : ((bits A : Int) - 1).toNat = bits m - 1 := by omega
  have f4 : decide ((1 : Int) * 2 ^ (bits m - 1) ≤ A) = true := decide_eq_true (by simpa using ha)
  have f5 : (bits A : Int) - 1 + 1 - p = (K : Nat) := by omega
  have f6 : (if -((K : Nat) : Int) > 0 then -((K : Nat) : Int) else 0) = 0 := by rw [if_neg]; omega
  have f7 : (if ((K : Nat) : Int) > 0 then ((K : Nat) : Int) else 0) = K := by split <;> omega
  have f8 : (A * 2 ^ (0 : Int).toNat) = A := by simp
  have f9 : ((1 : Int) * 2 ^ ((K : Nat) : Int).toNat) = 2 ^ K := by simp
  have hR0 : A % 2 ^ K < 2 ^ K := Int.emod_lt_of_pos _ hpk
  have hR1 : 0 ≤ A % 2 ^ K := Int.emod_nonneg _ (by omega)
  have hbR : bits (A % 2 ^ K) ≤ K := by
    rw [bits_le]
    have : (2 : Int) ^ K = ((2 ^ K : Nat) : Int) := pow_cast.symm
    omega
  generalize hR : A % 2 ^ K = R at *
  generalize hQ : A / 2 ^ K = Q at *
  have hb2 : bits 2 = 2 := by decide
  have hu1 : ∀ b, 0 < 2 * R - 2 ^ K → upW w Q 1 b = upW w Q (2 * R - 2 ^ K) b := fun b h1 => by
    have h2 : ¬ 2 * R - 2 ^ K = 0 := by omega
    unfold upW
    rw [decide_eq_true h1, decide_eq_true (show (0 : Int) < 1 by omega), Bool.true_or, Bool.true_or]
  have hu2 : ∀ b, ¬ 0 < 2 * R - 2 ^ K → ¬ 2 * R - 2 ^ K = 0 → upW w Q (-1) b = upW w Q (2 * R - 2 ^ K) b := fun b h1 h2 => by
    unfold upW
    rw [decide_eq_false h1, decide_eq_false h2, decide_eq_false (show ¬ (0 : Int) < -1 by omega), decide_eq_false (show ¬ (-1 : Int) = 0 by omega)]
  have hb10 : bits 2 + bits R ≤ 100000000 := by omega
  rw [run_def (fd := d17) (η := [.val (.int p), .val (.str w), .val (.int m), .val (.int 1), .no, .no, .no, .no, .no, .no, .no, .no]) rfl rfl rfl]
  by_cases hm0 : 0 < m <;> by_cases hr : 0 < R
  · by_cases ht : 0 < 2 * R - 2 ^ K
    · cases hu : upW w Q (2 * R - 2 ^ K) (decide (m < 0)) <;>
      simp (disch := omega) only [d17, wn, s_for2, for_n, for_c, it_sq, own_get, s_app, LL, List.cons_append, List.nil_append, x_tuple, exB_n, exB_c, e_var, e_cst, e_gfn, e_tup, e_lst, e_bin, e_neg, e_cmp, e_chain, e_and, e_or, e_not, e_ife, e_ix, e_sl, e_call, e_callK, e_b1, e_b2, e_isi, e_bits, o_n, o_s, d_n, d_c, s_asg, s_own, s_frz, s_par2, slX_t, slX_v, slX_l, s_ret, s_retN, s_if, s_brk, s_cnt, s_exp, t_var, t_tup, t_n, t_c, ended_rt, ended_nx, get_0, get_s, put_0, put_s, Re.bind_ok, Re.st_ok, Re.of_some, SR.bind_nx, SR.bind_rt, W.st_v, W.st_t, W.i?_int, W.b?_bl, List.length_cons, List.length_nil, Nat.zero_add, Nat.reduceAdd, Nat.reduceLT, ↓reduceIte, if_true, if_false, Bool.false_eq_true, Bool.false_and, Bool.and_false, Bool.true_or, Bool.or_true, Bool.true_and, Bool.and_true, Bool.false_or, Bool.or_false, hA, x_abs, hb1, x_max, i_add, i_sub, i_shl, i_div, i_mod, i_mul, c_eq, h0, decide_false, decide_true, f1, f2, f3, f4, c_ge, f5, f6, f7, f8, f9, hR, hQ, x_int, c_gt, c_lt, hm0, hr, ht, c_is_raised, c_number_of, hu1 _ ht, hu, true_and, and_true, and_false, Int.add_zero]
    · by_cases ht2 : 2 * R - 2 ^ K = 0
      · cases hu : upW w Q 0 (decide (m < 0)) <;>
        simp (disch := omega) only [d17, wn, s_for2, for_n, for_c, it_sq, own_get, s_app, LL, List.cons_append, List.nil_append, x_tuple, exB_n, exB_c, e_var, e_cst, e_gfn, e_tup, e_lst, e_bin, e_neg, e_cmp, e_chain, e_and, e_or, e_not, e_ife, e_ix, e_sl, e_call, e_callK, e_b1, e_b2, e_isi, e_bits, o_n, o_s, d_n, d_c, s_asg, s_own, s_frz, s_par2, slX_t, slX_v, slX_l, s_ret, s_retN, s_if, s_brk, s_cnt, s_exp, t_var, t_tup, t_n, t_c, ended_rt, ended_nx, get_0, get_s, put_0, put_s, Re.bind_ok, Re.st_ok, Re.of_some, SR.bind_nx, SR.bind_rt, W.st_v, W.st_t, W.i?_int, W.b?_bl, List.length_cons, List.length_nil, Nat.zero_add, Nat.reduceAdd, Nat.reduceLT, ↓reduceIte, if_true, if_false, Bool.false_eq_true, Bool.false_and, Bool.and_false, Bool.true_or, Bool.or_true, Bool.true_and, Bool.and_true, Bool.false_or, Bool.or_false, hA, x_abs, hb1, x_max, i_add, i_sub, i_shl, i_div, i_mod, i_mul, c_eq, h0, decide_false, decide_true, f1, f2, f3, f4, c_ge, f5, f6, f7, f8, f9, hR, hQ, x_int, c_gt, c_lt, hm0, hr, ht, ht2, c_is_raised, c_number_of, hu, true_and, and_true, and_false, Int.add_zero, Int.lt_irrefl]
      · cases hu : upW w Q (2 * R - 2 ^ K) (decide (m < 0)) <;>
        simp (disch := omega) only [d17, wn, s_for2, for_n, for_c, it_sq, own_get, s_app, LL, List.cons_append, List.nil_append, x_tuple, exB_n, exB_c, e_var, e_cst, e_gfn, e_tup, e_lst, e_bin, e_neg, e_cmp, e_chain, e_and, e_or, e_not, e_ife, e_ix, e_sl, e_call, e_callK, e_b1, e_b2, e_isi, e_bits, o_n, o_s, d_n, d_c, s_asg, s_own, s_frz, s_par2, slX_t, slX_v, slX_l, s_ret, s_retN, s_if, s_brk, s_cnt, s_exp, t_var, t_tup, t_n, t_c, ended_rt, ended_nx, get_0, get_s, put_0, put_s, Re.bind_ok, Re.st_ok, Re.of_some, SR.bind_nx, SR.bind_rt, W.st_v, W.st_t, W.i?_int, W.b?_bl, List.length_cons, List.length_nil, Nat.zero_add, Nat.reduceAdd, Nat.reduceLT, ↓reduceIte, if_true, if_false, Bool.false_eq_true, Bool.false_and, Bool.and_false, Bool.true_or, Bool.or_true, Bool.true_and, Bool.and_true, Bool.false_or, Bool.or_false, hA, x_abs, hb1, x_max, i_add, i_sub, i_shl, i_div, i_mod, i_mul, c_eq, h0, decide_false, decide_true, f1, f2, f3, f4, c_ge, f5, f6, f7, f8, f9, hR, hQ, x_int, c_gt, c_lt, hm0, hr, ht, ht2, c_is_raised, c_number_of, hu2 _ ht ht2, hu, true_and, and_true, and_false, Int.add_zero]
  · simp (disch := omega) only [d17, wn, s_for2, for_n, for_c, it_sq, own_get, s_app, LL, List.cons_append, List.nil_append, x_tuple, exB_n, exB_c, e_var, e_cst, e_gfn, e_tup, e_lst, e_bin, e_neg, e_cmp, e_chain, e_and, e_or, e_not, e_ife, e_ix, e_sl, e_call, e_callK, e_b1, e_b2, e_isi, e_bits, o_n, o_s, d_n, d_c, s_asg, s_own, s_frz, s_par2, slX_t, slX_v, slX_l, s_ret, s_retN, s_if, s_brk, s_cnt, s_exp, t_var, t_tup, t_n, t_c, ended_rt, ended_nx, get_0, get_s, put_0, put_s, Re.bind_ok, Re.st_ok, Re.of_some, SR.bind_nx, SR.bind_rt, W.st_v, W.st_t, W.i?_int, W.b?_bl, List.length_cons, List.length_nil, Nat.zero_add, Nat.reduceAdd, Nat.reduceLT, ↓reduceIte, if_true, if_false, Bool.false_eq_true, Bool.false_and, Bool.and_false, Bool.true_or, Bool.or_true, Bool.true_and, Bool.and_true, Bool.false_or, Bool.or_false, hA, x_abs, hb1, x_max, i_add, i_sub, i_shl, i_div, i_mod, i_mul, c_eq, h0, decide_false, decide_true, f1, f2, f3, f4, c_ge, f5, f6, f7, f8, f9, hR, hQ, x_int, c_gt, c_lt, hm0, hr, c_number_of, false_and]
  · by_cases ht : 0 < 2 * R - 2 ^ K
    · cases hu : upW w Q (2 * R - 2 ^ K) (decide (m < 0)) <;>
      simp (disch := omega) only [d17, wn, s_for2, for_n, for_c, it_sq, own_get, s_app, LL, List.cons_append, List.nil_append, x_tuple, exB_n, exB_c, e_var, e_cst, e_gfn, e_tup, e_lst, e_bin, e_neg, e_cmp, e_chain, e_and, e_or, e_not, e_ife, e_ix, e_sl, e_call, e_callK, e_b1, e_b2, e_isi, e_bits, o_n, o_s, d_n, d_c, s_asg, s_own, s_frz, s_par2, slX_t, slX_v, slX_l, s_ret, s_retN, s_if, s_brk, s_cnt, s_exp, t_var, t_tup, t_n, t_c, ended_rt, ended_nx, get_0, get_s, put_0, put_s, Re.bind_ok, Re.st_ok, Re.of_some, SR.bind_nx, SR.bind_rt, W.st_v, W.st_t, W.i?_int, W.b?_bl, List.length_cons, List.length_nil, Nat.zero_add, Nat.reduceAdd, Nat.reduceLT, ↓reduceIte, if_true, if_false, Bool.false_eq_true, Bool.false_and, Bool.and_false, Bool.true_or, Bool.or_true, Bool.true_and, Bool.and_true, Bool.false_or, Bool.or_false, hA, x_abs, hb1, x_max, i_add, i_sub, i_shl, i_div, i_mod, i_mul, c_eq, h0, decide_false, decide_true, f1, f2, f3, f4, c_ge, f5, f6, f7, f8, f9, hR, hQ, x_int, c_gt, c_lt, hm0, hr, ht, c_is_raised, c_number_of, hu1 _ ht, hu, true_and, and_true, and_false, Int.add_zero]
    · by_cases ht2 : 2 * R - 2 ^ K = 0
      · cases hu : upW w Q 0 (decide (m < 0)) <;>
        simp (disch := omega) only [d17, wn, s_for2, for_n, for_c, it_sq, own_get, s_app, LL, List.cons_append, List.nil_append, x_tuple, exB_n, exB_c, e_var, e_cst, e_gfn, e_tup, e_lst, e_bin, e_neg, e_cmp, e_chain, e_and, e_or, e_not, e_ife, e_ix, e_sl, e_call, e_callK, e_b1, e_b2, e_isi, e_bits, o_n, o_s, d_n, d_c, s_asg, s_own, s_frz, s_par2, slX_t, slX_v, slX_l, s_ret, s_retN, s_if, s_brk, s_cnt, s_exp, t_var, t_tup, t_n, t_c, ended_rt, ended_nx, get_0, get_s, put_0, put_s, Re.bind_ok, Re.st_ok, Re.of_some, SR.bind_nx, SR.bind_rt, W.st_v, W.st_t, W.i?_int, W.b?_bl, List.length_cons, List.length_nil, Nat.zero_add, Nat.reduceAdd, Nat.reduceLT, ↓reduceIte, if_true, if_false, Bool.false_eq_true, Bool.false_and, Bool.and_false, Bool.true_or, Bool.or_true, Bool.true_and, Bool.and_true, Bool.false_or, Bool.or_false, hA, x_abs, hb1, x_max, i_add, i_sub, i_shl, i_div, i_mod, i_mul, c_eq, h0, decide_false, decide_true, f1, f2, f3, f4, c_ge, f5, f6, f7, f8, f9, hR, hQ, x_int, c_gt, c_lt, hm0, hr, ht, ht2, c_is_raised, c_number_of, hu, true_and, and_true, and_false, Int.add_zero, Int.lt_irrefl]
      · cases hu : upW w Q (2 * R - 2 ^ K) (decide (m < 0)) <;>
        simp (disch := omega) only [d17, wn, s_for2, for_n, for_c, it_sq, own_get, s_app, LL, List.cons_append, List.nil_append, x_tuple, exB_n, exB_c, e_var, e_cst, e_gfn, e_tup, e_lst, e_bin, e_neg, e_cmp, e_chain, e_and, e_or, e_not, e_ife, e_ix, e_sl, e_call, e_callK, e_b1, e_b2, e_isi, e_bits, o_n, o_s, d_n, d_c, s_asg, s_own, s_frz, s_par2, slX_t, slX_v, slX_l, s_ret, s_retN, s_if, s_brk, s_cnt, s_exp, t_var, t_tup, t_n, t_c, ended_rt, ended_nx, get_0, get_s, put_0, put_s, Re.bind_ok, Re.st_ok, Re.of_some, SR.bind_nx, SR.bind_rt, W.st_v, W.st_t, W.i?_int, W.b?_bl, List.length_cons, List.length_nil, Nat.zero_add, Nat.reduceAdd, Nat.reduceLT, ↓reduceIte, if_true, if_false, Bool.false_eq_true, Bool.false_and, Bool.and_false, Bool.true_or, Bool.or_true, Bool.true_and, Bool.and_true, Bool.false_or, Bool.or_false, hA, x_abs, hb1, x_max, i_add, i_sub, i_shl, i_div, i_mod, i_mul, c_eq, h0, decide_false, decide_true, f1, f2, f3, f4, c_ge, f5, f6, f7, f8, f9, hR, hQ, x_int, c_gt, c_lt, hm0, hr, ht, ht2, c_is_raised, c_number_of, hu2 _ ht ht2, hu, true_and, and_true, and_false, Int.add_zero]
  · simp (disch := omega) only [d17, wn, s_for2, for_n, for_c, it_sq, own_get, s_app, LL, List.cons_append, List.nil_append, x_tuple, exB_n, exB_c, e_var, e_cst, e_gfn, e_tup, e_lst, e_bin, e_neg, e_cmp, e_chain, e_and, e_or, e_not, e_ife, e_ix, e_sl, e_call, e_callK, e_b1, e_b2, e_isi, e_bits, o_n, o_s, d_n, d_c, s_asg, s_own, s_frz, s_par2, slX_t, slX_v, slX_l, s_ret, s_retN, s_if, s_brk, s_cnt, s_exp, t_var, t_tup, t_n, t_c, ended_rt, ended_nx, get_0, get_s, put_0, put_s, Re.bind_ok, Re.st_ok, Re.of_some, SR.bind_nx, SR.bind_rt, W.st_v, W.st_t, W.i?_int, W.b?_bl, List.length_cons, List.length_nil, Nat.zero_add, Nat.reduceAdd, Nat.reduceLT, ↓reduceIte, if_true, if_false, Bool.false_eq_true, Bool.false_and, Bool.and_false, Bool.true_or, Bool.or_true, Bool.true_and, Bool.and_true, Bool.false_or, Bool.or_false, hA, x_abs, hb1, x_max, i_add, i_sub, i_shl, i_div, i_mod, i_mul, c_eq, h0, decide_false, decide_true, f1, f2, f3, f4, c_ge, f5, f6, f7, f8, f9, hR, hQ, x_int, c_gt, c_lt, hm0, hr, c_number_of, false_and]
theorem c_rounded (n p : Nat) (w : Str) (x b : Int) (T : Sto) (hp : 1 ≤ p) (hp2 : p ≤ 4000) (hx : Sm x b) : run P (n + 3) 18 [.int p, .str w, N x b] T = .ok (N (rn p w x) b) T := by
  rw [run_def (fd := d18) (η := [.val (.int p), .val (.str w), .val (N x b), .no]) rfl rfl rfl]
  have hf := c_fits n p (num x b) T
  by_cases h0 : x = 0
  · subst h0
    have h1 : bits (num (0 : Int) b).1 ≤ p := by
      show bits 0 ≤ p
      rw [bits_zero]
      omega
    simp only [d18, wn, s_for2, for_n, for_c, it_sq, own_get, s_app, LL, List.cons_append, List.nil_append, x_tuple, exB_n, exB_c, e_var, e_cst, e_gfn, e_tup, e_lst, e_bin, e_neg, e_cmp, e_chain, e_and, e_or, e_not, e_ife, e_ix, e_sl, e_call, e_callK, e_b1, e_b2, e_isi, e_bits, o_n, o_s, d_n, d_c, s_asg, s_own, s_frz, s_par2, slX_t, slX_v, slX_l, s_ret, s_retN, s_if, s_brk, s_cnt, s_exp, t_var, t_tup, t_n, t_c, ended_rt, ended_nx, get_0, get_s, put_0, put_s, Re.bind_ok, Re.st_ok, Re.of_some, SR.bind_nx, SR.bind_rt, W.st_v, W.st_t, W.i?_int, W.b?_bl, List.length_cons, List.length_nil, Nat.zero_add, Nat.reduceAdd, Nat.reduceLT, ↓reduceIte, if_true, if_false, Bool.false_eq_true, Bool.false_and, Bool.and_false, Bool.true_or, Bool.or_true, Bool.true_and, Bool.and_true, Bool.false_or, Bool.or_false, hf, h1, decide_true, rn_zero]
  · obtain ⟨k, m, ho, e1, e2⟩ := num_parts (b := b) h0
    rw [e2] at hf
    have hN : N x b = pr (m, b + k) := congrArg pr e2
    by_cases h1 : bits m ≤ p
    · have h2 : rn p w x = x := by
        rw [e1, rn_scale hp, rn_id h1]
      simp only [d18, wn, s_for2, for_n, for_c, it_sq, own_get, s_app, LL, List.cons_append, List.nil_append, x_tuple, exB_n, exB_c, e_var, e_cst, e_gfn, e_tup, e_lst, e_bin, e_neg, e_cmp, e_chain, e_and, e_or, e_not, e_ife, e_ix, e_sl, e_call, e_callK, e_b1, e_b2, e_isi, e_bits, o_n, o_s, d_n, d_c, s_asg, s_own, s_frz, s_par2, slX_t, slX_v, slX_l, s_ret, s_retN, s_if, s_brk, s_cnt, s_exp, t_var, t_tup, t_n, t_c, ended_rt, ended_nx, get_0, get_s, put_0, put_s, Re.bind_ok, Re.st_ok, Re.of_some, SR.bind_nx, SR.bind_rt, W.st_v, W.st_t, W.i?_int, W.b?_bl, List.length_cons, List.length_nil, Nat.zero_add, Nat.reduceAdd, Nat.reduceLT, ↓reduceIte, if_true, if_false, Bool.false_eq_true, Bool.false_and, Bool.and_false, Bool.true_or, Bool.or_true, Bool.true_and, Bool.and_true, Bool.false_or, Bool.or_false, hN, hf, h1, decide_true]
      rw [h2, ← hN]
    · have hm0 : m ≠ 0 := by omega
      have hmb : bits m ≤ 10000000 := by
        have := bits_mul_pow hm0 k
        rw [← e1] at this
        have := hx.bits
        omega
      have hq := c_rounded_quotient n p w m T hp hp2 (by omega) hmb
      have hl := rounded_law (w := w) (b := b) (k := k) hp (show p < bits m by omega)
      rw [← e1] at hl
      have hv := num_move (c := (cutK p m : Nat)) (e := b + k) (rnq_ne (w := w) hp (show p < bits m by omega))
      rw [hl] at hv
      simp only [d18, wn, s_for2, for_n, for_c, it_sq, own_get, s_app, LL, List.cons_append, List.nil_append, x_tuple, exB_n, exB_c, e_var, e_cst, e_gfn, e_tup, e_lst, e_bin, e_neg, e_cmp, e_chain, e_and, e_or, e_not, e_ife, e_ix, e_sl, e_call, e_callK, e_b1, e_b2, e_isi, e_bits, o_n, o_s, d_n, d_c, s_asg, s_own, s_frz, s_par2, slX_t, slX_v, slX_l, s_ret, s_retN, s_if, s_brk, s_cnt, s_exp, t_var, t_tup, t_n, t_c, ended_rt, ended_nx, get_0, get_s, put_0, put_s, Re.bind_ok, Re.st_ok, Re.of_some, SR.bind_nx, SR.bind_rt, W.st_v, W.st_t, W.i?_int, W.b?_bl, List.length_cons, List.length_nil, Nat.zero_add, Nat.reduceAdd, Nat.reduceLT, ↓reduceIte, if_true, if_false, Bool.false_eq_true, Bool.false_and, Bool.and_false, Bool.true_or, Bool.or_true, Bool.true_and, Bool.and_true, Bool.false_or, Bool.or_false, hN, hf, h1, decide_false, x_pr0, x_pr1, hq, i_add, pr_tup, hv]
theorem c_round_less (n p : Nat) (w : Str) (x y b : Int) (T : Sto) (hp : 1 ≤ p) (hp2 : p ≤ 4000) (hx : Sm x b) (hy : Sm y b) (hs : Sm (x - y) b) : run P (n + 4) 19 [.int p, .str w, N x b, N y b] T = .ok (N (rn p w (x - y)) b) T := by
  rw [run_def (fd := d19) (η := [.val (.int p), .val (.str w), .val (N x b), .val (N y b)]) rfl rfl rfl]
  have h1 := c_exact_less n x y b T hx hy
  have h2 := c_rounded n p w (x - y) b T hp hp2 hs
  simp only [d19, wn, s_for2, for_n, for_c, it_sq, own_get, s_app, LL, List.cons_append, List.nil_append, x_tuple, exB_n, exB_c, e_var, e_cst, e_gfn, e_tup, e_lst, e_bin, e_neg, e_cmp, e_chain, e_and, e_or, e_not, e_ife, e_ix, e_sl, e_call, e_callK, e_b1, e_b2, e_isi, e_bits, o_n, o_s, d_n, d_c, s_asg, s_own, s_frz, s_par2, slX_t, slX_v, slX_l, s_ret, s_retN, s_if, s_brk, s_cnt, s_exp, t_var, t_tup, t_n, t_c, ended_rt, ended_nx, get_0, get_s, put_0, put_s, Re.bind_ok, Re.st_ok, Re.of_some, SR.bind_nx, SR.bind_rt, W.st_v, W.st_t, W.i?_int, W.b?_bl, List.length_cons, List.length_nil, Nat.zero_add, Nat.reduceAdd, Nat.reduceLT, ↓reduceIte, if_true, if_false, Bool.false_eq_true, Bool.false_and, Bool.and_false, Bool.true_or, Bool.or_true, Bool.true_and, Bool.and_true, Bool.false_or, Bool.or_false, h1, h2]
end K06
namespace K06
open Ev PySem
theorem run_wp {n f : Nat} {fd : Fd} {ds : List D} {T : Sto} {η : En} {Q : D → Sto → Prop} (e : P f = some fd) (hl : ds.length = fd.ps.length) (hs : En.start fd.N.length ds = η)
    (h : (exB (run P n) fd.body η (At T)).wp (fun _ T => Q .non T) Q (fun _ _ => False) (fun _ _ => False)) : (run P (n + 1) f ds T).wp Q := by
  rw [run_def e hl hs, wp_ended]
  exact h
theorem w_bag (n : Nat) (ns : List Int) (hn : ns.length ≤ 63) : (run P (n + 1) 20 [.ro (ns.map D.int)] []).wp fun d T => d = .loc 1 ∧ isB T := by
  refine run_wp (fd := d20) (η := [.val (.ro (ns.map D.int)), .no, .no, .no]) rfl rfl rfl ?_
  obtain ⟨ms, hms, hml⟩ : ∃ ms : List Int, cutD (ns.map D.int) none (some 63) = ms.map D.int ∧ ms.length ≤ 63 := by
    refine ⟨_, cutD_map, ?_⟩
    rw [List.length_take, List.length_drop]
    omega
  have hb1 : bits (1 : Int) = 1 := by decide
  have f1 : (1 : Int) * 2 ^ (640 : Int).toNat = 2 ^ 640 := by
    rw [Int.one_mul]
    rfl
  have hp2 := pow_pos2 640
  generalize hW : (2 : Int) ^ 640 = B at *
  have e1 : evE (run P n) (.lc (.bin .Mod (.b1 .abs (.var 3)) (.bin .LShift (.cst (.int 1)) (.cst (.int 640)))) (.var 3) (.sq (.sl (.var 0) none (some (.cst (.int 63))))) none [3]) [.val (.ro (ns.map D.int)), .no, .no, .no] (At []) = .ok (.l true ((ms.map fun i => (if i < 0 then -i else i) % B).map D.int)) (At []) := by
    refine lc_ints (by simp only [wn, s_for2, for_n, for_c, it_sq, own_get, s_app, LL, List.cons_append, List.nil_append, x_tuple, exB_n, exB_c, e_var, e_cst, e_gfn, e_tup, e_lst, e_bin, e_neg, e_cmp, e_chain, e_and, e_or, e_not, e_ife, e_ix, e_sl, e_call, e_callK, e_b1, e_b2, e_isi, e_bits, o_n, o_s, d_n, d_c, s_asg, s_own, s_frz, s_par2, slX_t, slX_v, slX_l, s_ret, s_retN, s_if, s_brk, s_cnt, s_exp, t_var, t_tup, t_n, t_c, ended_rt, ended_nx, get_0, get_s, put_0, put_s, Re.bind_ok, Re.st_ok, Re.of_some, SR.bind_nx, SR.bind_rt, W.st_v, W.st_t, W.i?_int, W.b?_bl, List.length_cons, List.length_nil, Nat.zero_add, Nat.reduceAdd, Nat.reduceLT, ↓reduceIte, if_true, if_false, Bool.false_eq_true, Bool.false_and, Bool.and_false, Bool.true_or, Bool.or_true, Bool.true_and, Bool.and_true, Bool.false_or, Bool.or_false, cut_ro, hms]) (by omega) (by show 3 < 4; omega) fun i _ => ?_
    show evE _ _ [_, _, _, _] _ = _
    simp (disch := omega) only [wn, s_for2, for_n, for_c, it_sq, own_get, s_app, LL, List.cons_append, List.nil_append, x_tuple, exB_n, exB_c, e_var, e_cst, e_gfn, e_tup, e_lst, e_bin, e_neg, e_cmp, e_chain, e_and, e_or, e_not, e_ife, e_ix, e_sl, e_call, e_callK, e_b1, e_b2, e_isi, e_bits, o_n, o_s, d_n, d_c, s_asg, s_own, s_frz, s_par2, slX_t, slX_v, slX_l, s_ret, s_retN, s_if, s_brk, s_cnt, s_exp, t_var, t_tup, t_n, t_c, ended_rt, ended_nx, get_0, get_s, put_0, put_s, Re.bind_ok, Re.st_ok, Re.of_some, SR.bind_nx, SR.bind_rt, W.st_v, W.st_t, W.i?_int, W.b?_bl, List.length_cons, List.length_nil, Nat.zero_add, Nat.reduceAdd, Nat.reduceLT, ↓reduceIte, if_true, if_false, Bool.false_eq_true, Bool.false_and, Bool.and_false, Bool.true_or, Bool.or_true, Bool.true_and, Bool.and_true, Bool.false_or, Bool.or_false, wipeE, x_abs, i_shl, f1, i_mod]
  have hks : ∀ c, c ∈ (ms.map fun i => (if i < 0 then -i else i) % B) → 0 ≤ c := fun c hc => by
    obtain ⟨i, _, rfl⟩ := List.mem_map.mp hc
    exact Int.emod_nonneg _ (by omega)
  have hkl : (ms.map fun i => (if i < 0 then -i else i) % B).length ≤ 63 := by rw [List.length_map]; exact hml
  generalize (ms.map fun i => (if i < 0 then -i else i) % B) = ks at *
  have elen : ∀ T, b1W .len T (.v (.lst (ks.map D.int))) = some (.v (.int ks.length)) := fun T => by rw [len_lst, List.length_map]
  simp -implicitDefEqProofs (disch := first | omega | assumption) only [d20, e1, elen, i_add, wp_ok, wp_bind, wp_ended, wps_nx, wps_rt, wps_bk, wps_ct, wps_st, wps_bind, wn, own_get, LL, List.cons_append, List.nil_append, x_tuple, slX_t, slX_v, slX_l, t_var, t_tup, t_n, t_c, ended_rt, ended_nx, get_0, get_s, put_0, put_s, Re.bind_ok, Re.st_ok, Re.of_some, SR.bind_nx, SR.bind_rt, W.st_v, W.st_t, W.i?_int, W.b?_bl, List.length_cons, List.length_nil, Nat.zero_add, Nat.reduceAdd, Nat.reduceLT, ↓reduceIte, if_true, if_false, Bool.false_eq_true, Bool.false_and, Bool.and_false, Bool.true_or, Bool.or_true, Bool.true_and, Bool.and_true, Bool.false_or, Bool.or_false, me_var, me_cst, me_gfn, me_tup, me_lst, me_bin, me_neg, me_cmp, me_chain, me_and, me_or, me_not, me_ife, me_ix, me_sl, me_call, me_callK, me_b1, me_b2, me_isi, me_bits, mo_n, mo_s, md_n, md_c, ms_asg, ms_own, ms_frz, ms_ret, ms_retN, ms_if, ms_whl, ms_brk, ms_cnt, ms_exp, ms_app, ms_setL, mexB_n, mexB_c, ms_for2, mit_sq, mit_rvd, mi_rng, mi_rng0, ms_par2]
  refine wpm_forI (fun x => ∃ i : Int, x = .int i) (fun η T => T = [] ∧ ∃ mix s, η = [.val (.ro (ns.map D.int)), .val (.lst (ks.map D.int)), .val (.int mix), s] ∧ 0 ≤ mix ∧ mix < 2147483647) (fun x m => by obtain ⟨i, _, rfl⟩ := List.mem_map.mp m; exact ⟨i, rfl⟩) ⟨rfl, _, _, rfl, by omega, by omega⟩ ?_ ?_
  · rintro _ η T ⟨i, rfl⟩ ⟨rfl, mix, s, rfl, m0, m1⟩
    refine ⟨_, rfl, ?_⟩
    have hbm := bits31 m0 m1
    have hbk : bits (48271 : Int) = 16 := by decide
    simp -implicitDefEqProofs (disch := first | omega | assumption) only [i_mul, i_mod, i_add, x_int, wp_ok, wp_bind, wp_ended, wps_nx, wps_rt, wps_bk, wps_ct, wps_st, wps_bind, wn, own_get, LL, List.cons_append, List.nil_append, x_tuple, slX_t, slX_v, slX_l, t_var, t_tup, t_n, t_c, ended_rt, ended_nx, get_0, get_s, put_0, put_s, Re.bind_ok, Re.st_ok, Re.of_some, SR.bind_nx, SR.bind_rt, W.st_v, W.st_t, W.i?_int, W.b?_bl, List.length_cons, List.length_nil, Nat.zero_add, Nat.reduceAdd, Nat.reduceLT, ↓reduceIte, if_true, if_false, Bool.false_eq_true, Bool.false_and, Bool.and_false, Bool.true_or, Bool.or_true, Bool.true_and, Bool.and_true, Bool.false_or, Bool.or_false, me_var, me_cst, me_gfn, me_tup, me_lst, me_bin, me_neg, me_cmp, me_chain, me_and, me_or, me_not, me_ife, me_ix, me_sl, me_call, me_callK, me_b1, me_b2, me_isi, me_bits, mo_n, mo_s, md_n, md_c, ms_asg, ms_own, ms_frz, ms_ret, ms_retN, ms_if, ms_whl, ms_brk, ms_cnt, ms_exp, ms_app, ms_setL, mexB_n, mexB_c, ms_for2, mit_sq, mit_rvd, mi_rng, mi_rng0, ms_par2]
    exact ⟨rfl, _, _, rfl, Int.emod_nonneg _ (by decide), Int.emod_lt_of_pos _ (by decide)⟩
  · rintro η T ⟨rfl, mix, s, rfl, m0, m1⟩
    have er : (ks.map D.int).reverse = ks.reverse.map D.int := (List.map_reverse).symm
    simp -implicitDefEqProofs (disch := first | omega | assumption) only [me_share, x_list, x_rev, er, wp_ok, wp_bind, wp_ended, wps_nx, wps_rt, wps_bk, wps_ct, wps_st, wps_bind, wn, own_get, LL, List.cons_append, List.nil_append, x_tuple, slX_t, slX_v, slX_l, t_var, t_tup, t_n, t_c, ended_rt, ended_nx, get_0, get_s, put_0, put_s, Re.bind_ok, Re.st_ok, Re.of_some, SR.bind_nx, SR.bind_rt, W.st_v, W.st_t, W.i?_int, W.b?_bl, List.length_cons, List.length_nil, Nat.zero_add, Nat.reduceAdd, Nat.reduceLT, ↓reduceIte, if_true, if_false, Bool.false_eq_true, Bool.false_and, Bool.and_false, Bool.true_or, Bool.or_true, Bool.true_and, Bool.and_true, Bool.false_or, Bool.or_false, me_var, me_cst, me_gfn, me_tup, me_lst, me_bin, me_neg, me_cmp, me_chain, me_and, me_or, me_not, me_ife, me_ix, me_sl, me_call, me_callK, me_b1, me_b2, me_isi, me_bits, mo_n, mo_s, md_n, md_c, ms_asg, ms_own, ms_frz, ms_ret, ms_retN, ms_if, ms_whl, ms_brk, ms_cnt, ms_exp, ms_app, ms_setL, mexB_n, mexB_c, ms_for2, mit_sq, mit_rvd, mi_rng, mi_rng0, ms_par2]
    exact ⟨rfl, ks.reverse, 0, mix, rfl, fun c hc => hks c (List.mem_reverse.mp hc), by omega, m0, m1⟩
theorem w_draw (n : Nat) (T : Sto) (below : Int) (hT : isB T) (h1 : 1 ≤ below) (h2 : bits below ≤ 9000) : (run P (n + 1) 21 [.loc 1, .int below] T).wp fun d T' => ∃ v : Int, d = .int v ∧ isB T' ∧ 0 ≤ v ∧ v < below := by
  refine run_wp (fd := d21) (η := [.val (.loc 1), .val (.int below), .no, .no, .no]) rfl rfl rfl ?_
  have hb1 : bits (48271 : Int) = 16 := by decide
  have hb7 : bits (7 : Int) ≤ 9000 := by decide
  have r62 : (2 : Int) ^ 62 = 4611686018427387904 := by decide
  have h10 : (10 : Int).natAbs < 2 ^ 64 := by decide
  have hten : (10 : Int) ^ (12 : Int).toNat = 1000000000000 := by decide
  refine wpm_cut 1 (fun η T => isB T ∧ ∃ s t, η = [.val (.loc 1), .val (.int below), s, t, .no]) ?_ ?_
  · simp -implicitDefEqProofs (disch := first | omega | assumption) only [d21, List.take_succ_cons, List.take_zero, mi_rng0, if62, wp_ok, wp_bind, wp_ended, wps_nx, wps_rt, wps_bk, wps_ct, wps_st, wps_bind, wn, own_get, LL, List.cons_append, List.nil_append, x_tuple, slX_t, slX_v, slX_l, t_var, t_tup, t_n, t_c, ended_rt, ended_nx, get_0, get_s, put_0, put_s, Re.bind_ok, Re.st_ok, Re.of_some, SR.bind_nx, SR.bind_rt, W.st_v, W.st_t, W.i?_int, W.b?_bl, List.length_cons, List.length_nil, Nat.zero_add, Nat.reduceAdd, Nat.reduceLT, ↓reduceIte, if_true, if_false, Bool.false_eq_true, Bool.false_and, Bool.and_false, Bool.true_or, Bool.or_true, Bool.true_and, Bool.and_true, Bool.false_or, Bool.or_false, me_var, me_cst, me_gfn, me_tup, me_lst, me_bin, me_neg, me_cmp, me_chain, me_and, me_or, me_not, me_ife, me_ix, me_sl, me_call, me_callK, me_b1, me_b2, me_isi, me_bits, mo_n, mo_s, md_n, md_c, ms_asg, ms_own, ms_frz, ms_ret, ms_retN, ms_if, ms_whl, ms_brk, ms_cnt, ms_exp, ms_app, ms_setL, mexB_n, mexB_c, ms_for2, mit_sq, mit_rvd, mi_rng, mi_rng0, ms_par2]
    refine wpm_forI (fun x => True) (fun η T => isB T ∧ ∃ s t, η = [.val (.loc 1), .val (.int below), s, t, .no]) (fun _ _ => trivial) ⟨hT, _, _, rfl⟩ ?_ ?_
    · rintro x η T - ⟨⟨cs, r, m, rfl, hc, hr, hm0, hm1⟩, s, t, rfl⟩
      refine ⟨_, rfl, ?_⟩
      by_cases h0 : 0 < r
      · simp -implicitDefEqProofs (disch := first | omega | assumption) only [bgm_1, c_gt, h0, decide_true, wp_ok, wp_bind, wp_ended, wps_nx, wps_rt, wps_bk, wps_ct, wps_st, wps_bind, wn, own_get, LL, List.cons_append, List.nil_append, x_tuple, slX_t, slX_v, slX_l, t_var, t_tup, t_n, t_c, ended_rt, ended_nx, get_0, get_s, put_0, put_s, Re.bind_ok, Re.st_ok, Re.of_some, SR.bind_nx, SR.bind_rt, W.st_v, W.st_t, W.i?_int, W.b?_bl, List.length_cons, List.length_nil, Nat.zero_add, Nat.reduceAdd, Nat.reduceLT, ↓reduceIte, if_true, if_false, Bool.false_eq_true, Bool.false_and, Bool.and_false, Bool.true_or, Bool.or_true, Bool.true_and, Bool.and_true, Bool.false_or, Bool.or_false, me_var, me_cst, me_gfn, me_tup, me_lst, me_bin, me_neg, me_cmp, me_chain, me_and, me_or, me_not, me_ife, me_ix, me_sl, me_call, me_callK, me_b1, me_b2, me_isi, me_bits, mo_n, mo_s, md_n, md_c, ms_asg, ms_own, ms_frz, ms_ret, ms_retN, ms_if, ms_whl, ms_brk, ms_cnt, ms_exp, ms_app, ms_setL, mexB_n, mexB_c, ms_for2, mit_sq, mit_rvd, mi_rng, mi_rng0, ms_par2]
        exact ⟨⟨cs, r, m, rfl, hc, hr, hm0, hm1⟩, _, _, rfl⟩
      by_cases hcs : cs = []
      · simp -implicitDefEqProofs (disch := first | omega | assumption) only [bgm_1, bgm_0, bgm_eq, c_gt, h0, hcs, decide_true, decide_false, wp_ok, wp_bind, wp_ended, wps_nx, wps_rt, wps_bk, wps_ct, wps_st, wps_bind, wn, own_get, LL, List.cons_append, List.nil_append, x_tuple, slX_t, slX_v, slX_l, t_var, t_tup, t_n, t_c, ended_rt, ended_nx, get_0, get_s, put_0, put_s, Re.bind_ok, Re.st_ok, Re.of_some, SR.bind_nx, SR.bind_rt, W.st_v, W.st_t, W.i?_int, W.b?_bl, List.length_cons, List.length_nil, Nat.zero_add, Nat.reduceAdd, Nat.reduceLT, ↓reduceIte, if_true, if_false, Bool.false_eq_true, Bool.false_and, Bool.and_false, Bool.true_or, Bool.or_true, Bool.true_and, Bool.and_true, Bool.false_or, Bool.or_false, me_var, me_cst, me_gfn, me_tup, me_lst, me_bin, me_neg, me_cmp, me_chain, me_and, me_or, me_not, me_ife, me_ix, me_sl, me_call, me_callK, me_b1, me_b2, me_isi, me_bits, mo_n, mo_s, md_n, md_c, ms_asg, ms_own, ms_frz, ms_ret, ms_retN, ms_if, ms_whl, ms_brk, ms_cnt, ms_exp, ms_app, ms_setL, mexB_n, mexB_c, ms_for2, mit_sq, mit_rvd, mi_rng, mi_rng0, ms_par2]
        exact ⟨⟨[], r, m, rfl, by simp, hr, hm0, hm1⟩, _, _, rfl⟩
      have hpop := fun (c : Call) (s t : Slot) => bgm_pop (r := r) (m := m) (c := c) (η := [.val (.loc 1), .val (.int below), s, t, .no]) rfl hcs
      have hlast := hc _ (List.getLast_mem hcs)
      have hdl : ∀ c, c ∈ cs.dropLast → 0 ≤ c := fun c hm => hc c ((List.dropLast_sublist cs).subset hm)
      generalize cs.getLast hcs = z at *
      generalize cs.dropLast = cs' at *
      by_cases hz : 1000000000000 < z
      · simp -implicitDefEqProofs (disch := first | omega | assumption) only [bgm_1, bgm_0, bgm_eq, c_gt, h0, hcs, decide_true, decide_false, hpop, i_pow, hten, hz, h10, ms_setL, bgm_st, ix_31, bgm_w1, wp_ok, wp_bind, wp_ended, wps_nx, wps_rt, wps_bk, wps_ct, wps_st, wps_bind, wn, own_get, LL, List.cons_append, List.nil_append, x_tuple, slX_t, slX_v, slX_l, t_var, t_tup, t_n, t_c, ended_rt, ended_nx, get_0, get_s, put_0, put_s, Re.bind_ok, Re.st_ok, Re.of_some, SR.bind_nx, SR.bind_rt, W.st_v, W.st_t, W.i?_int, W.b?_bl, List.length_cons, List.length_nil, Nat.zero_add, Nat.reduceAdd, Nat.reduceLT, ↓reduceIte, if_true, if_false, Bool.false_eq_true, Bool.false_and, Bool.and_false, Bool.true_or, Bool.or_true, Bool.true_and, Bool.and_true, Bool.false_or, Bool.or_false, me_var, me_cst, me_gfn, me_tup, me_lst, me_bin, me_neg, me_cmp, me_chain, me_and, me_or, me_not, me_ife, me_ix, me_sl, me_call, me_callK, me_b1, me_b2, me_isi, me_bits, mo_n, mo_s, md_n, md_c, ms_asg, ms_own, ms_frz, ms_ret, ms_retN, ms_if, ms_whl, ms_brk, ms_cnt, ms_exp, ms_app, ms_setL, mexB_n, mexB_c, ms_for2, mit_sq, mit_rvd, mi_rng, mi_rng0, ms_par2]
        exact ⟨⟨cs', z, m, rfl, hdl, hlast, hm0, hm1⟩, _, _, rfl⟩
      · simp -implicitDefEqProofs (disch := first | omega | assumption) only [bgm_1, bgm_0, bgm_eq, c_gt, h0, hcs, decide_true, decide_false, hpop, i_pow, hten, hz, h10, ms_setL, bgm_st, ix_31, bgm_w1, wp_ok, wp_bind, wp_ended, wps_nx, wps_rt, wps_bk, wps_ct, wps_st, wps_bind, wn, own_get, LL, List.cons_append, List.nil_append, x_tuple, slX_t, slX_v, slX_l, t_var, t_tup, t_n, t_c, ended_rt, ended_nx, get_0, get_s, put_0, put_s, Re.bind_ok, Re.st_ok, Re.of_some, SR.bind_nx, SR.bind_rt, W.st_v, W.st_t, W.i?_int, W.b?_bl, List.length_cons, List.length_nil, Nat.zero_add, Nat.reduceAdd, Nat.reduceLT, ↓reduceIte, if_true, if_false, Bool.false_eq_true, Bool.false_and, Bool.and_false, Bool.true_or, Bool.or_true, Bool.true_and, Bool.and_true, Bool.false_or, Bool.or_false, me_var, me_cst, me_gfn, me_tup, me_lst, me_bin, me_neg, me_cmp, me_chain, me_and, me_or, me_not, me_ife, me_ix, me_sl, me_call, me_callK, me_b1, me_b2, me_isi, me_bits, mo_n, mo_s, md_n, md_c, ms_asg, ms_own, ms_frz, ms_ret, ms_retN, ms_if, ms_whl, ms_brk, ms_cnt, ms_exp, ms_app, ms_setL, mexB_n, mexB_c, ms_for2, mit_sq, mit_rvd, mi_rng, mi_rng0, ms_par2]
        exact ⟨⟨cs', 0, m, rfl, hdl, by omega, hm0, hm1⟩, _, _, rfl⟩
    · rintro η T ⟨hT, s, t, rfl⟩
      simp -implicitDefEqProofs (disch := first | omega | assumption) only [wp_ok, wp_bind, wp_ended, wps_nx, wps_rt, wps_bk, wps_ct, wps_st, wps_bind, wn, own_get, LL, List.cons_append, List.nil_append, x_tuple, slX_t, slX_v, slX_l, t_var, t_tup, t_n, t_c, ended_rt, ended_nx, get_0, get_s, put_0, put_s, Re.bind_ok, Re.st_ok, Re.of_some, SR.bind_nx, SR.bind_rt, W.st_v, W.st_t, W.i?_int, W.b?_bl, List.length_cons, List.length_nil, Nat.zero_add, Nat.reduceAdd, Nat.reduceLT, ↓reduceIte, if_true, if_false, Bool.false_eq_true, Bool.false_and, Bool.and_false, Bool.true_or, Bool.or_true, Bool.true_and, Bool.and_true, Bool.false_or, Bool.or_false, me_var, me_cst, me_gfn, me_tup, me_lst, me_bin, me_neg, me_cmp, me_chain, me_and, me_or, me_not, me_ife, me_ix, me_sl, me_call, me_callK, me_b1, me_b2, me_isi, me_bits, mo_n, mo_s, md_n, md_c, ms_asg, ms_own, ms_frz, ms_ret, ms_retN, ms_if, ms_whl, ms_brk, ms_cnt, ms_exp, ms_app, ms_setL, mexB_n, mexB_c, ms_for2, mit_sq, mit_rvd, mi_rng, mi_rng0, ms_par2]
      exact ⟨hT, _, _, rfl⟩
  · rintro η T ⟨⟨cs, r, m, rfl, hc, hr, hm0, hm1⟩, s, t, rfl⟩
    by_cases h0 : 0 < r
    · have hor : bits below ≤ 9000 ∨ bits r ≤ bits below + 4000 := .inl h2
      simp -implicitDefEqProofs (disch := first | omega | assumption) only [d21, List.drop_succ_cons, List.drop_zero, bgm_1, c_gt, h0, decide_true, i_mod, i_div, x_int, ms_setL, bgm_st, ix_31, bgm_w1, wp_ok, wp_bind, wp_ended, wps_nx, wps_rt, wps_bk, wps_ct, wps_st, wps_bind, wn, own_get, LL, List.cons_append, List.nil_append, x_tuple, slX_t, slX_v, slX_l, t_var, t_tup, t_n, t_c, ended_rt, ended_nx, get_0, get_s, put_0, put_s, Re.bind_ok, Re.st_ok, Re.of_some, SR.bind_nx, SR.bind_rt, W.st_v, W.st_t, W.i?_int, W.b?_bl, List.length_cons, List.length_nil, Nat.zero_add, Nat.reduceAdd, Nat.reduceLT, ↓reduceIte, if_true, if_false, Bool.false_eq_true, Bool.false_and, Bool.and_false, Bool.true_or, Bool.or_true, Bool.true_and, Bool.and_true, Bool.false_or, Bool.or_false, me_var, me_cst, me_gfn, me_tup, me_lst, me_bin, me_neg, me_cmp, me_chain, me_and, me_or, me_not, me_ife, me_ix, me_sl, me_call, me_callK, me_b1, me_b2, me_isi, me_bits, mo_n, mo_s, md_n, md_c, ms_asg, ms_own, ms_frz, ms_ret, ms_retN, ms_if, ms_whl, ms_brk, ms_cnt, ms_exp, ms_app, ms_setL, mexB_n, mexB_c, ms_for2, mit_sq, mit_rvd, mi_rng, mi_rng0, ms_par2]
      exact ⟨_, rfl, ⟨cs, _, m, rfl, hc, Int.ediv_nonneg (by omega) (by omega), hm0, hm1⟩, Int.emod_nonneg _ (by omega), Int.emod_lt_of_pos _ (by omega)⟩
    · have hbm := bits31 hm0 hm1
      have q1 := Int.emod_nonneg (m * 48271 + 11) (show (2147483647 : Int) ≠ 0 by decide)
      have q2 := Int.emod_lt_of_pos (m * 48271 + 11) (show (0 : Int) < 2147483647 by decide)
      simp -implicitDefEqProofs (disch := first | omega | assumption) only [d21, List.drop_succ_cons, List.drop_zero, bgm_1, bgm_2, c_gt, h0, decide_false, i_mod, i_mul, i_add, x_int, ms_setL, bgm_st, ix_32, bgm_w2, wp_ok, wp_bind, wp_ended, wps_nx, wps_rt, wps_bk, wps_ct, wps_st, wps_bind, wn, own_get, LL, List.cons_append, List.nil_append, x_tuple, slX_t, slX_v, slX_l, t_var, t_tup, t_n, t_c, ended_rt, ended_nx, get_0, get_s, put_0, put_s, Re.bind_ok, Re.st_ok, Re.of_some, SR.bind_nx, SR.bind_rt, W.st_v, W.st_t, W.i?_int, W.b?_bl, List.length_cons, List.length_nil, Nat.zero_add, Nat.reduceAdd, Nat.reduceLT, ↓reduceIte, if_true, if_false, Bool.false_eq_true, Bool.false_and, Bool.and_false, Bool.true_or, Bool.or_true, Bool.true_and, Bool.and_true, Bool.false_or, Bool.or_false, me_var, me_cst, me_gfn, me_tup, me_lst, me_bin, me_neg, me_cmp, me_chain, me_and, me_or, me_not, me_ife, me_ix, me_sl, me_call, me_callK, me_b1, me_b2, me_isi, me_bits, mo_n, mo_s, md_n, md_c, ms_asg, ms_own, ms_frz, ms_ret, ms_retN, ms_if, ms_whl, ms_brk, ms_cnt, ms_exp, ms_app, ms_setL, mexB_n, mexB_c, ms_for2, mit_sq, mit_rvd, mi_rng, mi_rng0, ms_par2]
      generalize (m * 48271 + 11) % 2147483647 = M at *
      have hbM := bits31 q1 q2
      have hor : ∀ i : Int, bits (7 : Int) ≤ 9000 ∨ bits i ≤ bits (7 : Int) + 4000 := fun i => .inl hb7
      simp -implicitDefEqProofs (disch := first | omega | assumption) only [bgm_2, i_mod, i_mul, i_div, x_int, hor, wp_ok, wp_bind, wp_ended, wps_nx, wps_rt, wps_bk, wps_ct, wps_st, wps_bind, wn, own_get, LL, List.cons_append, List.nil_append, x_tuple, slX_t, slX_v, slX_l, t_var, t_tup, t_n, t_c, ended_rt, ended_nx, get_0, get_s, put_0, put_s, Re.bind_ok, Re.st_ok, Re.of_some, SR.bind_nx, SR.bind_rt, W.st_v, W.st_t, W.i?_int, W.b?_bl, List.length_cons, List.length_nil, Nat.zero_add, Nat.reduceAdd, Nat.reduceLT, ↓reduceIte, if_true, if_false, Bool.false_eq_true, Bool.false_and, Bool.and_false, Bool.true_or, Bool.or_true, Bool.true_and, Bool.and_true, Bool.false_or, Bool.or_false, me_var, me_cst, me_gfn, me_tup, me_lst, me_bin, me_neg, me_cmp, me_chain, me_and, me_or, me_not, me_ife, me_ix, me_sl, me_call, me_callK, me_b1, me_b2, me_isi, me_bits, mo_n, mo_s, md_n, md_c, ms_asg, ms_own, ms_frz, ms_ret, ms_retN, ms_if, ms_whl, ms_brk, ms_cnt, ms_exp, ms_app, ms_setL, mexB_n, mexB_c, ms_for2, mit_sq, mit_rvd, mi_rng, mi_rng0, ms_par2]
      exact ⟨_, rfl, ⟨cs, r, M, rfl, hc, hr, q1, q2⟩, Int.emod_nonneg _ (by omega), Int.emod_lt_of_pos _ (by omega)⟩
theorem w_bits (n k : Nat) (T : Sto) (hT : isB T) (hk : k ≤ 4000) : (run P (n + 2) 22 [.loc 1, .int k] T).wp fun d T' => ∃ v : Int, d = .int v ∧ isB T' ∧ 0 ≤ v ∧ v < 2 ^ k := by
  refine run_wp (fd := d22) (η := [.val (.loc 1), .val (.int k), .no, .no, .no]) rfl rfl rfl ?_
  have hb20 : bits (20 : Int) ≤ 9000 := by decide
  have hb1 : bits (1 : Int) = 1 := by decide
  have r62 : (2 : Int) ^ 62 = 4611686018427387904 := by decide
  have hor : bits (20 : Int) ≤ 9000 ∨ bits (k : Int) ≤ bits (20 : Int) + 4000 := .inl hb20
  have e20 : (1 : Int) * 2 ^ (20 : Int).toNat = 1048576 := by decide
  obtain ⟨q, hq⟩ : ∃ q : Nat, (k : Int) / 20 = q := ⟨k / 20, by omega⟩
  obtain ⟨r, hr⟩ : ∃ r : Nat, (k : Int) % 20 = r := ⟨k % 20, by omega⟩
  have hkq : k = 20 * q + r := by omega
  simp -implicitDefEqProofs (disch := first | omega | assumption) only [d22, x_int, i_mod, i_div, mi_rng0, hq, hr, if62, wp_ok, wp_bind, wp_ended, wps_nx, wps_rt, wps_bk, wps_ct, wps_st, wps_bind, wn, own_get, LL, List.cons_append, List.nil_append, x_tuple, slX_t, slX_v, slX_l, t_var, t_tup, t_n, t_c, ended_rt, ended_nx, get_0, get_s, put_0, put_s, Re.bind_ok, Re.st_ok, Re.of_some, SR.bind_nx, SR.bind_rt, W.st_v, W.st_t, W.i?_int, W.b?_bl, List.length_cons, List.length_nil, Nat.zero_add, Nat.reduceAdd, Nat.reduceLT, ↓reduceIte, if_true, if_false, Bool.false_eq_true, Bool.false_and, Bool.and_false, Bool.true_or, Bool.or_true, Bool.true_and, Bool.and_true, Bool.false_or, Bool.or_false, me_var, me_cst, me_gfn, me_tup, me_lst, me_bin, me_neg, me_cmp, me_chain, me_and, me_or, me_not, me_ife, me_ix, me_sl, me_call, me_callK, me_b1, me_b2, me_isi, me_bits, mo_n, mo_s, md_n, md_c, ms_asg, ms_own, ms_frz, ms_ret, ms_retN, ms_if, ms_whl, ms_brk, ms_cnt, ms_exp, ms_app, ms_setL, mexB_n, mexB_c, ms_for2, mit_sq, mit_rvd, mi_rng, mi_rng0, ms_par2]
  refine wpm_for (fun ys η T => isB T ∧ ∃ (f : Int) (s : Slot), ys.length ≤ q ∧ 0 ≤ f ∧ f < 2 ^ (20 * (q - ys.length)) ∧ η = [.val (.loc 1), .val (.int k), s, .val (.int f), .val (.int r)]) ⟨hT, 0, _, by unfold rngL; simp, by omega, Int.pow_pos (by decide), rfl⟩ ?_ ?_
  · rintro x ys η T ⟨hT, f, s, hl, f0, f1, rfl⟩
    refine ⟨_, rfl, ?_⟩
    rw [List.length_cons] at hl f1
    have hbf : bits f ≤ 20 * (q - (ys.length + 1)) := small_bits (by have := pow_pos2 (20 * (q - (ys.length + 1))); omega) f1
    simp -implicitDefEqProofs (disch := first | omega | assumption) only [i_shl, e20, wp_ok, wp_bind, wp_ended, wps_nx, wps_rt, wps_bk, wps_ct, wps_st, wps_bind, wn, own_get, LL, List.cons_append, List.nil_append, x_tuple, slX_t, slX_v, slX_l, t_var, t_tup, t_n, t_c, ended_rt, ended_nx, get_0, get_s, put_0, put_s, Re.bind_ok, Re.st_ok, Re.of_some, SR.bind_nx, SR.bind_rt, W.st_v, W.st_t, W.i?_int, W.b?_bl, List.length_cons, List.length_nil, Nat.zero_add, Nat.reduceAdd, Nat.reduceLT, ↓reduceIte, if_true, if_false, Bool.false_eq_true, Bool.false_and, Bool.and_false, Bool.true_or, Bool.or_true, Bool.true_and, Bool.and_true, Bool.false_or, Bool.or_false, me_var, me_cst, me_gfn, me_tup, me_lst, me_bin, me_neg, me_cmp, me_chain, me_and, me_or, me_not, me_ife, me_ix, me_sl, me_call, me_callK, me_b1, me_b2, me_isi, me_bits, mo_n, mo_s, md_n, md_c, ms_asg, ms_own, ms_frz, ms_ret, ms_retN, ms_if, ms_whl, ms_brk, ms_cnt, ms_exp, ms_app, ms_setL, mexB_n, mexB_c, ms_for2, mit_sq, mit_rvd, mi_rng, mi_rng0, ms_par2]
    refine wpm_step (w_draw _ T 1048576 hT (by decide) (by decide)) ?_
    rintro _ T1 ⟨v, rfl, b1, v0, v1⟩
    have ef : f * 2 ^ (20 : Int).toNat = f * 1048576 := rfl
    simp -implicitDefEqProofs (disch := first | omega | assumption) only [i_add, ef, wp_ok, wp_bind, wp_ended, wps_nx, wps_rt, wps_bk, wps_ct, wps_st, wps_bind, wn, own_get, LL, List.cons_append, List.nil_append, x_tuple, slX_t, slX_v, slX_l, t_var, t_tup, t_n, t_c, ended_rt, ended_nx, get_0, get_s, put_0, put_s, Re.bind_ok, Re.st_ok, Re.of_some, SR.bind_nx, SR.bind_rt, W.st_v, W.st_t, W.i?_int, W.b?_bl, List.length_cons, List.length_nil, Nat.zero_add, Nat.reduceAdd, Nat.reduceLT, ↓reduceIte, if_true, if_false, Bool.false_eq_true, Bool.false_and, Bool.and_false, Bool.true_or, Bool.or_true, Bool.true_and, Bool.and_true, Bool.false_or, Bool.or_false, me_var, me_cst, me_gfn, me_tup, me_lst, me_bin, me_neg, me_cmp, me_chain, me_and, me_or, me_not, me_ife, me_ix, me_sl, me_call, me_callK, me_b1, me_b2, me_isi, me_bits, mo_n, mo_s, md_n, md_c, ms_asg, ms_own, ms_frz, ms_ret, ms_retN, ms_if, ms_whl, ms_brk, ms_cnt, ms_exp, ms_app, ms_setL, mexB_n, mexB_c, ms_for2, mit_sq, mit_rvd, mi_rng, mi_rng0, ms_par2]
    refine ⟨b1, _, _, by omega, by omega, ?_, rfl⟩
    have e1 : 20 * (q - ys.length) = 20 * (q - (ys.length + 1)) + 20 := by omega
    have e2 : (2 : Int) ^ (20 * (q - ys.length)) = 2 ^ (20 * (q - (ys.length + 1))) * 1048576 := by rw [e1, Int.pow_add]; rfl
    rw [e2]
    generalize (2 : Int) ^ (20 * (q - (ys.length + 1))) = W at *
    have : (f + 1) * 1048576 ≤ W * 1048576 := Int.mul_le_mul_of_nonneg_right (by omega) (by omega)
    omega
  · rintro η T ⟨hT, f, s, hl, f0, f1, rfl⟩
    have hbf : bits f ≤ 20 * q := small_bits (by have := pow_pos2 (20 * q); omega) (by simpa using f1)
    have e1 : (1 : Int) * 2 ^ ((r : Nat) : Int).toNat = 2 ^ r := by rw [Int.one_mul]; rfl
    have e2 : f * 2 ^ ((r : Nat) : Int).toNat = f * 2 ^ r := rfl
    simp -implicitDefEqProofs (disch := first | omega | assumption) only [i_shl, e1, e2, wp_ok, wp_bind, wp_ended, wps_nx, wps_rt, wps_bk, wps_ct, wps_st, wps_bind, wn, own_get, LL, List.cons_append, List.nil_append, x_tuple, slX_t, slX_v, slX_l, t_var, t_tup, t_n, t_c, ended_rt, ended_nx, get_0, get_s, put_0, put_s, Re.bind_ok, Re.st_ok, Re.of_some, SR.bind_nx, SR.bind_rt, W.st_v, W.st_t, W.i?_int, W.b?_bl, List.length_cons, List.length_nil, Nat.zero_add, Nat.reduceAdd, Nat.reduceLT, ↓reduceIte, if_true, if_false, Bool.false_eq_true, Bool.false_and, Bool.and_false, Bool.true_or, Bool.or_true, Bool.true_and, Bool.and_true, Bool.false_or, Bool.or_false, me_var, me_cst, me_gfn, me_tup, me_lst, me_bin, me_neg, me_cmp, me_chain, me_and, me_or, me_not, me_ife, me_ix, me_sl, me_call, me_callK, me_b1, me_b2, me_isi, me_bits, mo_n, mo_s, md_n, md_c, ms_asg, ms_own, ms_frz, ms_ret, ms_retN, ms_if, ms_whl, ms_brk, ms_cnt, ms_exp, ms_app, ms_setL, mexB_n, mexB_c, ms_for2, mit_sq, mit_rvd, mi_rng, mi_rng0, ms_par2]
    refine wpm_step (w_draw _ T (2 ^ r) hT (by have := pow_pos2 r; omega) (by rw [bits_two_pow]; omega)) ?_
    rintro _ T1 ⟨v, rfl, b1, v0, v1⟩
    simp -implicitDefEqProofs (disch := first | omega | assumption) only [i_add, wp_ok, wp_bind, wp_ended, wps_nx, wps_rt, wps_bk, wps_ct, wps_st, wps_bind, wn, own_get, LL, List.cons_append, List.nil_append, x_tuple, slX_t, slX_v, slX_l, t_var, t_tup, t_n, t_c, ended_rt, ended_nx, get_0, get_s, put_0, put_s, Re.bind_ok, Re.st_ok, Re.of_some, SR.bind_nx, SR.bind_rt, W.st_v, W.st_t, W.i?_int, W.b?_bl, List.length_cons, List.length_nil, Nat.zero_add, Nat.reduceAdd, Nat.reduceLT, ↓reduceIte, if_true, if_false, Bool.false_eq_true, Bool.false_and, Bool.and_false, Bool.true_or, Bool.or_true, Bool.true_and, Bool.and_true, Bool.false_or, Bool.or_false, me_var, me_cst, me_gfn, me_tup, me_lst, me_bin, me_neg, me_cmp, me_chain, me_and, me_or, me_not, me_ife, me_ix, me_sl, me_call, me_callK, me_b1, me_b2, me_isi, me_bits, mo_n, mo_s, md_n, md_c, ms_asg, ms_own, ms_frz, ms_ret, ms_retN, ms_if, ms_whl, ms_brk, ms_cnt, ms_exp, ms_app, ms_setL, mexB_n, mexB_c, ms_for2, mit_sq, mit_rvd, mi_rng, mi_rng0, ms_par2]
    have hp := pow_pos2 r
    refine ⟨_, rfl, b1, by have := Int.mul_nonneg f0 (Int.le_of_lt hp); omega, ?_⟩
    have f2 : f < 2 ^ (20 * q) := by simpa using f1
    rw [hkq, Int.pow_add]
    generalize (2 : Int) ^ (20 * q) = W at *
    have : (f + 1) * 2 ^ r ≤ W * 2 ^ r := Int.mul_le_mul_of_nonneg_right (by omega) (by omega)
    rw [Int.add_mul, Int.one_mul] at this
    omega
theorem w_full (n k : Nat) (T : Sto) (hT : isB T) (h1 : 1 ≤ k) (hk : k ≤ 4000) : (run P (n + 3) 23 [.loc 1, .int k] T).wp fun d T' => ∃ v : Int, d = .int v ∧ isB T' ∧ 2 ^ (k - 1) ≤ v ∧ v < 2 ^ k := by
  refine run_wp (fd := d23) (η := [.val (.loc 1), .val (.int k)]) rfl rfl rfl ?_
  have hb1 : bits (1 : Int) = 1 := by decide
  have e0 : (k : Int) - 1 = ((k - 1 : Nat) : Int) := by omega
  have e1 : (1 : Int) * 2 ^ (((k - 1 : Nat) : Nat) : Int).toNat = 2 ^ (k - 1) := by rw [Int.one_mul]; rfl
  simp -implicitDefEqProofs (disch := first | omega | assumption) only [d23, i_sub, e0, i_shl, e1, wp_ok, wp_bind, wp_ended, wps_nx, wps_rt, wps_bk, wps_ct, wps_st, wps_bind, wn, own_get, LL, List.cons_append, List.nil_append, x_tuple, slX_t, slX_v, slX_l, t_var, t_tup, t_n, t_c, ended_rt, ended_nx, get_0, get_s, put_0, put_s, Re.bind_ok, Re.st_ok, Re.of_some, SR.bind_nx, SR.bind_rt, W.st_v, W.st_t, W.i?_int, W.b?_bl, List.length_cons, List.length_nil, Nat.zero_add, Nat.reduceAdd, Nat.reduceLT, ↓reduceIte, if_true, if_false, Bool.false_eq_true, Bool.false_and, Bool.and_false, Bool.true_or, Bool.or_true, Bool.true_and, Bool.and_true, Bool.false_or, Bool.or_false, me_var, me_cst, me_gfn, me_tup, me_lst, me_bin, me_neg, me_cmp, me_chain, me_and, me_or, me_not, me_ife, me_ix, me_sl, me_call, me_callK, me_b1, me_b2, me_isi, me_bits, mo_n, mo_s, md_n, md_c, ms_asg, ms_own, ms_frz, ms_ret, ms_retN, ms_if, ms_whl, ms_brk, ms_cnt, ms_exp, ms_app, ms_setL, mexB_n, mexB_c, ms_for2, mit_sq, mit_rvd, mi_rng, mi_rng0, ms_par2]
  refine wpm_step (w_bits n (k - 1) T hT (by omega)) ?_
  rintro _ T1 ⟨v, rfl, b1, v0, v1⟩
  simp -implicitDefEqProofs (disch := first | omega | assumption) only [i_add, wp_ok, wp_bind, wp_ended, wps_nx, wps_rt, wps_bk, wps_ct, wps_st, wps_bind, wn, own_get, LL, List.cons_append, List.nil_append, x_tuple, slX_t, slX_v, slX_l, t_var, t_tup, t_n, t_c, ended_rt, ended_nx, get_0, get_s, put_0, put_s, Re.bind_ok, Re.st_ok, Re.of_some, SR.bind_nx, SR.bind_rt, W.st_v, W.st_t, W.i?_int, W.b?_bl, List.length_cons, List.length_nil, Nat.zero_add, Nat.reduceAdd, Nat.reduceLT, ↓reduceIte, if_true, if_false, Bool.false_eq_true, Bool.false_and, Bool.and_false, Bool.true_or, Bool.or_true, Bool.true_and, Bool.and_true, Bool.false_or, Bool.or_false, me_var, me_cst, me_gfn, me_tup, me_lst, me_bin, me_neg, me_cmp, me_chain, me_and, me_or, me_not, me_ife, me_ix, me_sl, me_call, me_callK, me_b1, me_b2, me_isi, me_bits, mo_n, mo_s, md_n, md_c, ms_asg, ms_own, ms_frz, ms_ret, ms_retN, ms_if, ms_whl, ms_brk, ms_cnt, ms_exp, ms_app, ms_setL, mexB_n, mexB_c, ms_for2, mit_sq, mit_rvd, mi_rng, mi_rng0, ms_par2]
  have e2 : (2 : Int) ^ k = 2 ^ (k - 1) + 2 ^ (k - 1) := by
    obtain ⟨j, rfl⟩ : ∃ j, k = j + 1 := ⟨k - 1, by omega⟩
    rw [Nat.add_sub_cancel, Int.pow_succ]
    omega
  exact ⟨_, rfl, b1, by omega, by omega⟩
theorem w_width (n : Nat) (T : Sto) (hT : isB T) : (run P (n + 2) 24 [.loc 1] T).wp fun d T' => ∃ p : Nat, d = .int p ∧ isB T' ∧ 2 ≤ p ∧ p ≤ 24 := by
  refine run_wp (fd := d24) (η := [.val (.loc 1), .no]) rfl rfl rfl ?_
  simp -implicitDefEqProofs (disch := first | omega | assumption) only [d24, wp_ok, wp_bind, wp_ended, wps_nx, wps_rt, wps_bk, wps_ct, wps_st, wps_bind, wn, own_get, LL, List.cons_append, List.nil_append, x_tuple, slX_t, slX_v, slX_l, t_var, t_tup, t_n, t_c, ended_rt, ended_nx, get_0, get_s, put_0, put_s, Re.bind_ok, Re.st_ok, Re.of_some, SR.bind_nx, SR.bind_rt, W.st_v, W.st_t, W.i?_int, W.b?_bl, List.length_cons, List.length_nil, Nat.zero_add, Nat.reduceAdd, Nat.reduceLT, ↓reduceIte, if_true, if_false, Bool.false_eq_true, Bool.false_and, Bool.and_false, Bool.true_or, Bool.or_true, Bool.true_and, Bool.and_true, Bool.false_or, Bool.or_false, me_var, me_cst, me_gfn, me_tup, me_lst, me_bin, me_neg, me_cmp, me_chain, me_and, me_or, me_not, me_ife, me_ix, me_sl, me_call, me_callK, me_b1, me_b2, me_isi, me_bits, mo_n, mo_s, md_n, md_c, ms_asg, ms_own, ms_frz, ms_ret, ms_retN, ms_if, ms_whl, ms_brk, ms_cnt, ms_exp, ms_app, ms_setL, mexB_n, mexB_c, ms_for2, mit_sq, mit_rvd, mi_rng, mi_rng0, ms_par2]
  refine wpm_step (w_draw _ T 8 hT (by decide) (by decide)) ?_
  rintro _ T1 ⟨v, rfl, b1, v0, v1⟩
  by_cases h : v < 4
  · obtain ⟨d, hd, he⟩ := ix_mem (f := true) (xs := [.int 2, .int 3, .int 4, .int 24]) v0 (by simpa using h)
    simp -implicitDefEqProofs (disch := first | omega | assumption) only [c_lt, h, decide_true, he, wp_ok, wp_bind, wp_ended, wps_nx, wps_rt, wps_bk, wps_ct, wps_st, wps_bind, wn, own_get, LL, List.cons_append, List.nil_append, x_tuple, slX_t, slX_v, slX_l, t_var, t_tup, t_n, t_c, ended_rt, ended_nx, get_0, get_s, put_0, put_s, Re.bind_ok, Re.st_ok, Re.of_some, SR.bind_nx, SR.bind_rt, W.st_v, W.st_t, W.i?_int, W.b?_bl, List.length_cons, List.length_nil, Nat.zero_add, Nat.reduceAdd, Nat.reduceLT, ↓reduceIte, if_true, if_false, Bool.false_eq_true, Bool.false_and, Bool.and_false, Bool.true_or, Bool.or_true, Bool.true_and, Bool.and_true, Bool.false_or, Bool.or_false, me_var, me_cst, me_gfn, me_tup, me_lst, me_bin, me_neg, me_cmp, me_chain, me_and, me_or, me_not, me_ife, me_ix, me_sl, me_call, me_callK, me_b1, me_b2, me_isi, me_bits, mo_n, mo_s, md_n, md_c, ms_asg, ms_own, ms_frz, ms_ret, ms_retN, ms_if, ms_whl, ms_brk, ms_cnt, ms_exp, ms_app, ms_setL, mexB_n, mexB_c, ms_for2, mit_sq, mit_rvd, mi_rng, mi_rng0, ms_par2]
    simp only [List.mem_cons, List.not_mem_nil, or_false] at hd
    rcases hd with rfl | rfl | rfl | rfl
    · exact ⟨2, rfl, b1, by omega, by omega⟩
    · exact ⟨3, rfl, b1, by omega, by omega⟩
    · exact ⟨4, rfl, b1, by omega, by omega⟩
    · exact ⟨24, rfl, b1, by omega, by omega⟩
  · simp -implicitDefEqProofs (disch := first | omega | assumption) only [c_lt, h, decide_false, wp_ok, wp_bind, wp_ended, wps_nx, wps_rt, wps_bk, wps_ct, wps_st, wps_bind, wn, own_get, LL, List.cons_append, List.nil_append, x_tuple, slX_t, slX_v, slX_l, t_var, t_tup, t_n, t_c, ended_rt, ended_nx, get_0, get_s, put_0, put_s, Re.bind_ok, Re.st_ok, Re.of_some, SR.bind_nx, SR.bind_rt, W.st_v, W.st_t, W.i?_int, W.b?_bl, List.length_cons, List.length_nil, Nat.zero_add, Nat.reduceAdd, Nat.reduceLT, ↓reduceIte, if_true, if_false, Bool.false_eq_true, Bool.false_and, Bool.and_false, Bool.true_or, Bool.or_true, Bool.true_and, Bool.and_true, Bool.false_or, Bool.or_false, me_var, me_cst, me_gfn, me_tup, me_lst, me_bin, me_neg, me_cmp, me_chain, me_and, me_or, me_not, me_ife, me_ix, me_sl, me_call, me_callK, me_b1, me_b2, me_isi, me_bits, mo_n, mo_s, md_n, md_c, ms_asg, ms_own, ms_frz, ms_ret, ms_retN, ms_if, ms_whl, ms_brk, ms_cnt, ms_exp, ms_app, ms_setL, mexB_n, mexB_c, ms_for2, mit_sq, mit_rvd, mi_rng, mi_rng0, ms_par2]
    refine wpm_step (w_draw _ T1 23 b1 (by decide) (by decide)) ?_
    rintro _ T2 ⟨w, rfl, b2, w0, w1⟩
    simp -implicitDefEqProofs (disch := first | omega | assumption) only [i_add, wp_ok, wp_bind, wp_ended, wps_nx, wps_rt, wps_bk, wps_ct, wps_st, wps_bind, wn, own_get, LL, List.cons_append, List.nil_append, x_tuple, slX_t, slX_v, slX_l, t_var, t_tup, t_n, t_c, ended_rt, ended_nx, get_0, get_s, put_0, put_s, Re.bind_ok, Re.st_ok, Re.of_some, SR.bind_nx, SR.bind_rt, W.st_v, W.st_t, W.i?_int, W.b?_bl, List.length_cons, List.length_nil, Nat.zero_add, Nat.reduceAdd, Nat.reduceLT, ↓reduceIte, if_true, if_false, Bool.false_eq_true, Bool.false_and, Bool.and_false, Bool.true_or, Bool.or_true, Bool.true_and, Bool.and_true, Bool.false_or, Bool.or_false, me_var, me_cst, me_gfn, me_tup, me_lst, me_bin, me_neg, me_cmp, me_chain, me_and, me_or, me_not, me_ife, me_ix, me_sl, me_call, me_callK, me_b1, me_b2, me_isi, me_bits, mo_n, mo_s, md_n, md_c, ms_asg, ms_own, ms_frz, ms_ret, ms_retN, ms_if, ms_whl, ms_brk, ms_cnt, ms_exp, ms_app, ms_setL, mexB_n, mexB_c, ms_for2, mit_sq, mit_rvd, mi_rng, mi_rng0, ms_par2]
    exact ⟨(2 + w).toNat, by congr 1; omega, b2, by omega, by omega⟩
theorem w_place (n : Nat) (T : Sto) (hT : isB T) : (run P (n + 2) 25 [.loc 1] T).wp fun d T' => ∃ e : Int, d = .int e ∧ isB T' ∧ -400 ≤ e ∧ e ≤ 400 := by
  refine run_wp (fd := d25) (η := [.val (.loc 1), .no]) rfl rfl rfl ?_
  simp -implicitDefEqProofs (disch := first | omega | assumption) only [d25, wp_ok, wp_bind, wp_ended, wps_nx, wps_rt, wps_bk, wps_ct, wps_st, wps_bind, wn, own_get, LL, List.cons_append, List.nil_append, x_tuple, slX_t, slX_v, slX_l, t_var, t_tup, t_n, t_c, ended_rt, ended_nx, get_0, get_s, put_0, put_s, Re.bind_ok, Re.st_ok, Re.of_some, SR.bind_nx, SR.bind_rt, W.st_v, W.st_t, W.i?_int, W.b?_bl, List.length_cons, List.length_nil, Nat.zero_add, Nat.reduceAdd, Nat.reduceLT, ↓reduceIte, if_true, if_false, Bool.false_eq_true, Bool.false_and, Bool.and_false, Bool.true_or, Bool.or_true, Bool.true_and, Bool.and_true, Bool.false_or, Bool.or_false, me_var, me_cst, me_gfn, me_tup, me_lst, me_bin, me_neg, me_cmp, me_chain, me_and, me_or, me_not, me_ife, me_ix, me_sl, me_call, me_callK, me_b1, me_b2, me_isi, me_bits, mo_n, mo_s, md_n, md_c, ms_asg, ms_own, ms_frz, ms_ret, ms_retN, ms_if, ms_whl, ms_brk, ms_cnt, ms_exp, ms_app, ms_setL, mexB_n, mexB_c, ms_for2, mit_sq, mit_rvd, mi_rng, mi_rng0, ms_par2]
  refine wpm_step (w_draw _ T 8 hT (by decide) (by decide)) ?_
  rintro _ T1 ⟨v, rfl, b1, v0, v1⟩
  by_cases h : v < 2
  · obtain ⟨d, hd, he⟩ := ix_mem (f := true) (xs := [.int (-400), .int 400]) v0 (by simpa using h)
    simp -implicitDefEqProofs (disch := first | omega | assumption) only [c_lt, h, decide_true, he, wp_ok, wp_bind, wp_ended, wps_nx, wps_rt, wps_bk, wps_ct, wps_st, wps_bind, wn, own_get, LL, List.cons_append, List.nil_append, x_tuple, slX_t, slX_v, slX_l, t_var, t_tup, t_n, t_c, ended_rt, ended_nx, get_0, get_s, put_0, put_s, Re.bind_ok, Re.st_ok, Re.of_some, SR.bind_nx, SR.bind_rt, W.st_v, W.st_t, W.i?_int, W.b?_bl, List.length_cons, List.length_nil, Nat.zero_add, Nat.reduceAdd, Nat.reduceLT, ↓reduceIte, if_true, if_false, Bool.false_eq_true, Bool.false_and, Bool.and_false, Bool.true_or, Bool.or_true, Bool.true_and, Bool.and_true, Bool.false_or, Bool.or_false, me_var, me_cst, me_gfn, me_tup, me_lst, me_bin, me_neg, me_cmp, me_chain, me_and, me_or, me_not, me_ife, me_ix, me_sl, me_call, me_callK, me_b1, me_b2, me_isi, me_bits, mo_n, mo_s, md_n, md_c, ms_asg, ms_own, ms_frz, ms_ret, ms_retN, ms_if, ms_whl, ms_brk, ms_cnt, ms_exp, ms_app, ms_setL, mexB_n, mexB_c, ms_for2, mit_sq, mit_rvd, mi_rng, mi_rng0, ms_par2]
    simp only [List.mem_cons, List.not_mem_nil, or_false] at hd
    rcases hd with rfl | rfl
    · exact ⟨_, rfl, b1, by omega, by omega⟩
    · exact ⟨_, rfl, b1, by omega, by omega⟩
  by_cases h5 : v < 5
  · simp -implicitDefEqProofs (disch := first | omega | assumption) only [c_lt, h, h5, decide_false, decide_true, wp_ok, wp_bind, wp_ended, wps_nx, wps_rt, wps_bk, wps_ct, wps_st, wps_bind, wn, own_get, LL, List.cons_append, List.nil_append, x_tuple, slX_t, slX_v, slX_l, t_var, t_tup, t_n, t_c, ended_rt, ended_nx, get_0, get_s, put_0, put_s, Re.bind_ok, Re.st_ok, Re.of_some, SR.bind_nx, SR.bind_rt, W.st_v, W.st_t, W.i?_int, W.b?_bl, List.length_cons, List.length_nil, Nat.zero_add, Nat.reduceAdd, Nat.reduceLT, ↓reduceIte, if_true, if_false, Bool.false_eq_true, Bool.false_and, Bool.and_false, Bool.true_or, Bool.or_true, Bool.true_and, Bool.and_true, Bool.false_or, Bool.or_false, me_var, me_cst, me_gfn, me_tup, me_lst, me_bin, me_neg, me_cmp, me_chain, me_and, me_or, me_not, me_ife, me_ix, me_sl, me_call, me_callK, me_b1, me_b2, me_isi, me_bits, mo_n, mo_s, md_n, md_c, ms_asg, ms_own, ms_frz, ms_ret, ms_retN, ms_if, ms_whl, ms_brk, ms_cnt, ms_exp, ms_app, ms_setL, mexB_n, mexB_c, ms_for2, mit_sq, mit_rvd, mi_rng, mi_rng0, ms_par2]
    refine wpm_step (w_draw _ T1 801 b1 (by decide) (by decide)) ?_
    rintro _ T2 ⟨w, rfl, b2, w0, w1⟩
    simp -implicitDefEqProofs (disch := first | omega | assumption) only [i_sub, wp_ok, wp_bind, wp_ended, wps_nx, wps_rt, wps_bk, wps_ct, wps_st, wps_bind, wn, own_get, LL, List.cons_append, List.nil_append, x_tuple, slX_t, slX_v, slX_l, t_var, t_tup, t_n, t_c, ended_rt, ended_nx, get_0, get_s, put_0, put_s, Re.bind_ok, Re.st_ok, Re.of_some, SR.bind_nx, SR.bind_rt, W.st_v, W.st_t, W.i?_int, W.b?_bl, List.length_cons, List.length_nil, Nat.zero_add, Nat.reduceAdd, Nat.reduceLT, ↓reduceIte, if_true, if_false, Bool.false_eq_true, Bool.false_and, Bool.and_false, Bool.true_or, Bool.or_true, Bool.true_and, Bool.and_true, Bool.false_or, Bool.or_false, me_var, me_cst, me_gfn, me_tup, me_lst, me_bin, me_neg, me_cmp, me_chain, me_and, me_or, me_not, me_ife, me_ix, me_sl, me_call, me_callK, me_b1, me_b2, me_isi, me_bits, mo_n, mo_s, md_n, md_c, ms_asg, ms_own, ms_frz, ms_ret, ms_retN, ms_if, ms_whl, ms_brk, ms_cnt, ms_exp, ms_app, ms_setL, mexB_n, mexB_c, ms_for2, mit_sq, mit_rvd, mi_rng, mi_rng0, ms_par2]
    exact ⟨_, rfl, b2, by omega, by omega⟩
  · simp -implicitDefEqProofs (disch := first | omega | assumption) only [c_lt, h, h5, decide_false, wp_ok, wp_bind, wp_ended, wps_nx, wps_rt, wps_bk, wps_ct, wps_st, wps_bind, wn, own_get, LL, List.cons_append, List.nil_append, x_tuple, slX_t, slX_v, slX_l, t_var, t_tup, t_n, t_c, ended_rt, ended_nx, get_0, get_s, put_0, put_s, Re.bind_ok, Re.st_ok, Re.of_some, SR.bind_nx, SR.bind_rt, W.st_v, W.st_t, W.i?_int, W.b?_bl, List.length_cons, List.length_nil, Nat.zero_add, Nat.reduceAdd, Nat.reduceLT, ↓reduceIte, if_true, if_false, Bool.false_eq_true, Bool.false_and, Bool.and_false, Bool.true_or, Bool.or_true, Bool.true_and, Bool.and_true, Bool.false_or, Bool.or_false, me_var, me_cst, me_gfn, me_tup, me_lst, me_bin, me_neg, me_cmp, me_chain, me_and, me_or, me_not, me_ife, me_ix, me_sl, me_call, me_callK, me_b1, me_b2, me_isi, me_bits, mo_n, mo_s, md_n, md_c, ms_asg, ms_own, ms_frz, ms_ret, ms_retN, ms_if, ms_whl, ms_brk, ms_cnt, ms_exp, ms_app, ms_setL, mexB_n, mexB_c, ms_for2, mit_sq, mit_rvd, mi_rng, mi_rng0, ms_par2]
    refine wpm_step (w_draw _ T1 41 b1 (by decide) (by decide)) ?_
    rintro _ T2 ⟨w, rfl, b2, w0, w1⟩
    simp -implicitDefEqProofs (disch := first | omega | assumption) only [i_sub, wp_ok, wp_bind, wp_ended, wps_nx, wps_rt, wps_bk, wps_ct, wps_st, wps_bind, wn, own_get, LL, List.cons_append, List.nil_append, x_tuple, slX_t, slX_v, slX_l, t_var, t_tup, t_n, t_c, ended_rt, ended_nx, get_0, get_s, put_0, put_s, Re.bind_ok, Re.st_ok, Re.of_some, SR.bind_nx, SR.bind_rt, W.st_v, W.st_t, W.i?_int, W.b?_bl, List.length_cons, List.length_nil, Nat.zero_add, Nat.reduceAdd, Nat.reduceLT, ↓reduceIte, if_true, if_false, Bool.false_eq_true, Bool.false_and, Bool.and_false, Bool.true_or, Bool.or_true, Bool.true_and, Bool.and_true, Bool.false_or, Bool.or_false, me_var, me_cst, me_gfn, me_tup, me_lst, me_bin, me_neg, me_cmp, me_chain, me_and, me_or, me_not, me_ife, me_ix, me_sl, me_call, me_callK, me_b1, me_b2, me_isi, me_bits, mo_n, mo_s, md_n, md_c, ms_asg, ms_own, ms_frz, ms_ret, ms_retN, ms_if, ms_whl, ms_brk, ms_cnt, ms_exp, ms_app, ms_setL, mexB_n, mexB_c, ms_for2, mit_sq, mit_rvd, mi_rng, mi_rng0, ms_par2]
    exact ⟨_, rfl, b2, by omega, by omega⟩
theorem l_num (n : Nat) (m e : Int) (T : Sto) : run P (n + 1) 26 [.int m, .int e] T = .ok (N m e) T := by
  rw [run_def (fd := d26) (η := [.val (.int m), .val (.int e), .no]) rfl rfl rfl]
  by_cases h : m = 0
  · simp [d26, exB, exS, evE, evDs, En.get, En.put, asgT, cmpW, eqW, ended, W.st, W.b?, W.i?, h, N, num, pr]
  · have ht := tz_bits h
    simp [d26, exB, exS, evE, evDs, En.get, En.put, asgT, cmpW, eqW, ended, W.st, W.b?, W.i?, h, opW, iop, intOp, addW, ht, N, num, pr]
theorem ct_lv {n k : Nat} (h : k ≤ n) : ∃ m, n = m + k := ⟨n - k, by omega⟩
def ctDraw : Ct := ⟨21, 1, fun as => match as with
  | [.bag, .int lo hi _] => if 1 ≤ lo ∧ bitsR lo hi ≤ 9000 then some (.int 0 (hi - 1) false) else none
  | _ => none⟩
theorem ctDraw_ok : ctDraw.ok P isB := by
  intro n hn as a ds T e h hT
  obtain ⟨m, rfl⟩ := ct_lv hn
  simp only [ctDraw] at e
  split at e <;> try (cases e; done)
  split at e <;> simp only [Option.some.injEq, reduceCtorEq] at e
  rename_i q
  subst e
  obtain ⟨d1, d2, rfl, h1, h2⟩ := oks_2 h
  simp only [A.ok] at h1
  subst h1
  obtain ⟨v, rfl, v0, v1, _⟩ := aok_int.mp h2
  have := bits_range v0 v1
  refine wp_step (w_draw m T v hT (by omega) (by omega)) ?_
  rintro d T' ⟨x, rfl, b1, x0, x1⟩
  exact ⟨aok_int.mpr ⟨x, rfl, x0, by omega, fun h => by cases h⟩, b1⟩
def ctBits : Ct := ⟨22, 2, fun as => match as with
  | [.bag, .int lo hi _] => if 0 ≤ lo ∧ hi ≤ 4000 then some (.int 0 (2 ^ hi.toNat - 1) false) else none
  | _ => none⟩
theorem ctBits_ok : ctBits.ok P isB := by
  intro n hn as a ds T e h hT
  obtain ⟨m, rfl⟩ := ct_lv hn
  simp only [ctBits] at e
  split at e <;> try (cases e; done)
  rename_i lo hi o
  split at e <;> simp only [Option.some.injEq, reduceCtorEq] at e
  rename_i q
  subst e
  obtain ⟨d1, d2, rfl, h1, h2⟩ := oks_2 h
  simp only [A.ok] at h1
  subst h1
  obtain ⟨v, rfl, v0, v1, _⟩ := aok_int.mp h2
  obtain ⟨k, rfl⟩ : ∃ k : Nat, v = k := ⟨v.toNat, by omega⟩
  refine wp_step (w_bits m k T hT (by omega)) ?_
  rintro d T' ⟨x, rfl, b1, x0, x1⟩
  have := pow_mono2 (m := k) (n := hi.toNat) (by omega)
  exact ⟨aok_int.mpr ⟨x, rfl, x0, by omega, fun h => by cases h⟩, b1⟩
def ctFull : Ct := ⟨23, 3, fun as => match as with
  | [.bag, .int lo hi _] => if 1 ≤ lo ∧ hi ≤ 4000 then some (.int (2 ^ (lo.toNat - 1)) (2 ^ hi.toNat - 1) false) else none
  | _ => none⟩
theorem ctFull_ok : ctFull.ok P isB := by
  intro n hn as a ds T e h hT
  obtain ⟨m, rfl⟩ := ct_lv hn
  simp only [ctFull] at e
  split at e <;> try (cases e; done)
  rename_i lo hi o
  split at e <;> simp only [Option.some.injEq, reduceCtorEq] at e
  rename_i q
  subst e
  obtain ⟨d1, d2, rfl, h1, h2⟩ := oks_2 h
  simp only [A.ok] at h1
  subst h1
  obtain ⟨v, rfl, v0, v1, _⟩ := aok_int.mp h2
  obtain ⟨k, rfl⟩ : ∃ k : Nat, v = k := ⟨v.toNat, by omega⟩
  refine wp_step (w_full m k T hT (by omega) (by omega)) ?_
  rintro d T' ⟨x, rfl, b1, x0, x1⟩
  have g1 := pow_mono2 (m := k) (n := hi.toNat) (by omega)
  have g2 := pow_mono2 (m := lo.toNat - 1) (n := k - 1) (by omega)
  exact ⟨aok_int.mpr ⟨x, rfl, by omega, by omega, fun h => by cases h⟩, b1⟩
def ctWidth : Ct := ⟨24, 2, fun as => match as with
  | [.bag] => some (.or (cntA 23 2))
  | _ => none⟩
theorem ctWidth_ok : ctWidth.ok P isB := by
  intro n hn as a ds T e h hT
  obtain ⟨m, rfl⟩ := ct_lv hn
  simp only [ctWidth] at e
  split at e <;> simp only [Option.some.injEq, reduceCtorEq] at e
  subst e
  obtain ⟨d1, rfl, h1⟩ := oks_1 h
  simp only [A.ok] at h1
  subst h1
  refine wp_step (w_width m T hT) ?_
  rintro d T' ⟨p, rfl, b1, p0, p1⟩
  refine ⟨?_, b1⟩
  rw [A.ok]
  have := @cntA_ok 23 2
  have hm : D.int p ∈ (List.range 23).map fun k : Nat => D.int (2 + (k : Nat)) := List.mem_map.mpr ⟨p - 2, List.mem_range.mpr (by omega), by congr 1; omega⟩
  obtain ⟨x, m2, h2⟩ := oks_mem this hm
  exact oko_mem.mpr ⟨x, m2, h2⟩
def ctNum : Ct := ⟨26, 1, fun as => match as with
  | [.int a b o, .int c d _] => some (.num (bitsR a b) c d (o || decide (0 < a) || decide (b < 0)))
  | _ => none⟩
theorem ctNum_ok {I : Sto → Prop} : ctNum.ok P I := by
  intro n hn as a ds T e h hT
  obtain ⟨m, rfl⟩ := ct_lv hn
  simp only [ctNum] at e
  split at e <;> simp only [Option.some.injEq, reduceCtorEq] at e
  subst e
  obtain ⟨d1, d2, rfl, h1, h2⟩ := oks_2 h
  obtain ⟨v, rfl, v0, v1, v2⟩ := aok_int.mp h1
  obtain ⟨u, rfl, u0, u1, _⟩ := aok_int.mp h2
  refine wp_of (l_num m v u T) ⟨aok_num.mpr ⟨v, u, rfl, bits_range v0 v1, u0, u1, fun hz => ?_⟩, hT⟩
  simp only [Bool.or_eq_true, decide_eq_true_eq] at hz
  rcases hz with (hz | hz) | hz
  · have := v2 hz; omega
  · omega
  · omega
theorem l_sum_raw (n : Nat) (a c : Int × Int) (T : Sto) (h1 : 0 ≤ a.2 - low2 a c) (h2 : (bits a.1 : Int) + (a.2 - low2 a c) ≤ 100000000) (h3 : 0 ≤ c.2 - low2 a c) (h4 : (bits c.1 : Int) + (c.2 - low2 a c) ≤ 100000000) :
    run P (n + 2) 27 [pr a, pr c] T = .ok (N (a.1 * 2 ^ (a.2 - low2 a c).toNat + c.1 * 2 ^ (c.2 - low2 a c).toNat) (low2 a c)) T := by
  have e : low2 a c = if a.2 < c.2 then a.2 else c.2 := by
    unfold low2
    split <;> split <;> omega
  rw [run_def (fd := d27) (η := [.val (pr a), .val (pr c), .no]) rfl rfl rfl]
  by_cases h : a.2 < c.2
  · rw [if_pos h] at e
    rw [e] at h1 h2 h3 h4 ⊢
    simp (disch := omega) only [d27, wn, s_for2, for_n, for_c, it_sq, own_get, s_app, LL, List.cons_append, List.nil_append, x_tuple, exB_n, exB_c, e_var, e_cst, e_gfn, e_tup, e_lst, e_bin, e_neg, e_cmp, e_chain, e_and, e_or, e_not, e_ife, e_ix, e_sl, e_call, e_callK, e_b1, e_b2, e_isi, e_bits, o_n, o_s, d_n, d_c, s_asg, s_own, s_frz, s_par2, slX_t, slX_v, slX_l, s_ret, s_retN, s_if, s_brk, s_cnt, s_exp, t_var, t_tup, t_n, t_c, ended_rt, ended_nx, get_0, get_s, put_0, put_s, Re.bind_ok, Re.st_ok, Re.of_some, SR.bind_nx, SR.bind_rt, W.st_v, W.st_t, W.i?_int, W.b?_bl, List.length_cons, List.length_nil, Nat.zero_add, Nat.reduceAdd, Nat.reduceLT, ↓reduceIte, if_true, if_false, Bool.false_eq_true, Bool.false_and, Bool.and_false, Bool.true_or, Bool.or_true, Bool.true_and, Bool.and_true, Bool.false_or, Bool.or_false, x_pr0, x_pr1, c_lt, h, decide_true, i_add, i_sub, i_shl, l_num]
  · rw [if_neg h] at e
    rw [e] at h1 h2 h3 h4 ⊢
    simp (disch := omega) only [d27, wn, s_for2, for_n, for_c, it_sq, own_get, s_app, LL, List.cons_append, List.nil_append, x_tuple, exB_n, exB_c, e_var, e_cst, e_gfn, e_tup, e_lst, e_bin, e_neg, e_cmp, e_chain, e_and, e_or, e_not, e_ife, e_ix, e_sl, e_call, e_callK, e_b1, e_b2, e_isi, e_bits, o_n, o_s, d_n, d_c, s_asg, s_own, s_frz, s_par2, slX_t, slX_v, slX_l, s_ret, s_retN, s_if, s_brk, s_cnt, s_exp, t_var, t_tup, t_n, t_c, ended_rt, ended_nx, get_0, get_s, put_0, put_s, Re.bind_ok, Re.st_ok, Re.of_some, SR.bind_nx, SR.bind_rt, W.st_v, W.st_t, W.i?_int, W.b?_bl, List.length_cons, List.length_nil, Nat.zero_add, Nat.reduceAdd, Nat.reduceLT, ↓reduceIte, if_true, if_false, Bool.false_eq_true, Bool.false_and, Bool.and_false, Bool.true_or, Bool.or_true, Bool.true_and, Bool.and_true, Bool.false_or, Bool.or_false, x_pr0, x_pr1, c_lt, h, decide_false, i_add, i_sub, i_shl, l_num]
def ctSum : Ct := ⟨27, 2, fun as => match as with
  | [x, y] => (match x.pair? with
    | some (k, lo, hi) => (match y.pair? with
      | some (k', lo', hi') => if k ≤ 100000 ∧ k' ≤ 100000 ∧ -100000 ≤ lo ∧ -100000 ≤ lo' ∧ hi ≤ 100000 ∧ hi' ≤ 100000 then some (.num (mxN (k + (hi - mnI lo lo').toNat) (k' + (hi' - mnI lo lo').toNat) + 1) (mnI lo lo') (mxI hi hi') false) else none
      | none => none)
    | none => none)
  | _ => none⟩
theorem ctSum_ok {I : Sto → Prop} : ctSum.ok P I := by
  intro n hn as a ds T e h hT
  obtain ⟨m, rfl⟩ := ct_lv hn
  simp only [ctSum] at e
  split at e <;> try (cases e; done)
  split at e <;> try (cases e; done)
  rename_i k lo hi q1
  split at e <;> try (cases e; done)
  rename_i k' lo' hi' q2
  split at e <;> simp only [Option.some.injEq, reduceCtorEq] at e
  rename_i q
  subst e
  obtain ⟨d1, d2, rfl, h1, h2⟩ := oks_2 h
  obtain ⟨a, rfl, a1, a2, a3⟩ := pair?_ok q1 h1
  obtain ⟨c, rfl, c1, c2, c3⟩ := pair?_ok q2 h2
  have hl : 0 ≤ a.2 - low2 a c ∧ 0 ≤ c.2 - low2 a c ∧ mnI lo lo' ≤ low2 a c ∧ low2 a c ≤ mxI hi hi' ∧ a.2 - low2 a c ≤ hi - mnI lo lo' ∧ c.2 - low2 a c ≤ hi' - mnI lo lo' := by
    have m1 := @mnI_l lo lo'
    have m2 := @mnI_r lo lo'
    have m3 := @mxI_l hi hi'
    have m4 := @mxI_r hi hi'
    unfold low2
    split <;> refine ⟨?_, ?_, ?_, ?_, ?_, ?_⟩ <;> first | omega | (unfold mnI; split <;> omega)
  obtain ⟨l1, l2, l3, l4, l5, l6⟩ := hl
  have mb : -100000 ≤ mnI lo lo' := by unfold mnI; split <;> omega
  refine wp_of (l_sum_raw m a c T l1 (by omega) l2 (by omega)) ⟨aok_num.mpr ⟨_, _, rfl, bits_add ?_ ?_, l3, l4, fun hz => by cases hz⟩, hT⟩
  · refine Nat.le_trans (bits_shl a1) ?_
    have := @mxN_l (k + (hi - mnI lo lo').toNat) (k' + (hi' - mnI lo lo').toNat)
    omega
  · refine Nat.le_trans (bits_shl c1) ?_
    have := @mxN_r (k + (hi - mnI lo lo').toNat) (k' + (hi' - mnI lo lo').toNat)
    omega
end K06
namespace K06
open Ev PySem
def sgnI (z : Int) : Int := if 0 < z then 1 else if z < 0 then -1 else 0
theorem c_order_of (n : Nat) (x y b : Int) (T : Sto) (hx : Sm x b) (hy : Sm y b) : run P (n + 4) 5 [N x b, N y b] T = .ok (.int (sgnI (x - y))) T := by
  have h := c_exact_less n x y b T hx hy
  rw [run_def (fd := d5) (η := [.val (N x b), .val (N y b), .no]) rfl rfl rfl]
  unfold sgnI
  have s1 := @num_sign1 (x - y) b
  have s2 := @num_neg1 (x - y) b
  by_cases h1 : 0 < x - y
  · simp only [d5, wn, s_for2, for_n, for_c, it_sq, own_get, s_app, LL, List.cons_append, List.nil_append, x_tuple, exB_n, exB_c, e_var, e_cst, e_gfn, e_tup, e_lst, e_bin, e_neg, e_cmp, e_chain, e_and, e_or, e_not, e_ife, e_ix, e_sl, e_call, e_callK, e_b1, e_b2, e_isi, e_bits, o_n, o_s, d_n, d_c, s_asg, s_own, s_frz, s_par2, slX_t, slX_v, slX_l, s_ret, s_retN, s_if, s_brk, s_cnt, s_exp, t_var, t_tup, t_n, t_c, ended_rt, ended_nx, get_0, get_s, put_0, put_s, Re.bind_ok, Re.st_ok, Re.of_some, SR.bind_nx, SR.bind_rt, W.st_v, W.st_t, W.i?_int, W.b?_bl, List.length_cons, List.length_nil, Nat.zero_add, Nat.reduceAdd, Nat.reduceLT, ↓reduceIte, if_true, if_false, Bool.false_eq_true, Bool.false_and, Bool.and_false, Bool.true_or, Bool.or_true, Bool.true_and, Bool.and_true, Bool.false_or, Bool.or_false, h, x_pr0, c_gt, s1, h1, decide_true]
  · by_cases h2 : x - y < 0
    · simp only [d5, wn, s_for2, for_n, for_c, it_sq, own_get, s_app, LL, List.cons_append, List.nil_append, x_tuple, exB_n, exB_c, e_var, e_cst, e_gfn, e_tup, e_lst, e_bin, e_neg, e_cmp, e_chain, e_and, e_or, e_not, e_ife, e_ix, e_sl, e_call, e_callK, e_b1, e_b2, e_isi, e_bits, o_n, o_s, d_n, d_c, s_asg, s_own, s_frz, s_par2, slX_t, slX_v, slX_l, s_ret, s_retN, s_if, s_brk, s_cnt, s_exp, t_var, t_tup, t_n, t_c, ended_rt, ended_nx, get_0, get_s, put_0, put_s, Re.bind_ok, Re.st_ok, Re.of_some, SR.bind_nx, SR.bind_rt, W.st_v, W.st_t, W.i?_int, W.b?_bl, List.length_cons, List.length_nil, Nat.zero_add, Nat.reduceAdd, Nat.reduceLT, ↓reduceIte, if_true, if_false, Bool.false_eq_true, Bool.false_and, Bool.and_false, Bool.true_or, Bool.or_true, Bool.true_and, Bool.and_true, Bool.false_or, Bool.or_false, h, x_pr0, c_gt, c_lt, s1, s2, h1, h2, decide_true, decide_false, W.i?_int]
    · simp only [d5, wn, s_for2, for_n, for_c, it_sq, own_get, s_app, LL, List.cons_append, List.nil_append, x_tuple, exB_n, exB_c, e_var, e_cst, e_gfn, e_tup, e_lst, e_bin, e_neg, e_cmp, e_chain, e_and, e_or, e_not, e_ife, e_ix, e_sl, e_call, e_callK, e_b1, e_b2, e_isi, e_bits, o_n, o_s, d_n, d_c, s_asg, s_own, s_frz, s_par2, slX_t, slX_v, slX_l, s_ret, s_retN, s_if, s_brk, s_cnt, s_exp, t_var, t_tup, t_n, t_c, ended_rt, ended_nx, get_0, get_s, put_0, put_s, Re.bind_ok, Re.st_ok, Re.of_some, SR.bind_nx, SR.bind_rt, W.st_v, W.st_t, W.i?_int, W.b?_bl, List.length_cons, List.length_nil, Nat.zero_add, Nat.reduceAdd, Nat.reduceLT, ↓reduceIte, if_true, if_false, Bool.false_eq_true, Bool.false_and, Bool.and_false, Bool.true_or, Bool.or_true, Bool.true_and, Bool.and_true, Bool.false_or, Bool.or_false, h, x_pr0, c_gt, c_lt, s1, s2, h1, h2, decide_true, decide_false]
theorem c_times_two (n : Nat) (x b k : Int) (T : Sto) : run P (n + 2) 6 [N x b, .int k] T = .ok (N x (b + k)) T := by
  rw [run_def (fd := d6) (η := [.val (N x b), .val (.int k)]) rfl rfl rfl]
  simp only [d6, wn, s_for2, for_n, for_c, it_sq, own_get, s_app, LL, List.cons_append, List.nil_append, x_tuple, exB_n, exB_c, e_var, e_cst, e_gfn, e_tup, e_lst, e_bin, e_neg, e_cmp, e_chain, e_and, e_or, e_not, e_ife, e_ix, e_sl, e_call, e_callK, e_b1, e_b2, e_isi, e_bits, o_n, o_s, d_n, d_c, s_asg, s_own, s_frz, s_par2, slX_t, slX_v, slX_l, s_ret, s_retN, s_if, s_brk, s_cnt, s_exp, t_var, t_tup, t_n, t_c, ended_rt, ended_nx, get_0, get_s, put_0, put_s, Re.bind_ok, Re.st_ok, Re.of_some, SR.bind_nx, SR.bind_rt, W.st_v, W.st_t, W.i?_int, W.b?_bl, List.length_cons, List.length_nil, Nat.zero_add, Nat.reduceAdd, Nat.reduceLT, ↓reduceIte, if_true, if_false, Bool.false_eq_true, Bool.false_and, Bool.and_false, Bool.true_or, Bool.or_true, Bool.true_and, Bool.and_true, Bool.false_or, Bool.or_false, x_pr0, x_pr1, i_add, c_number_of, N_move]
theorem sgn_le {z : Int} : (sgnI z ≤ 0) = (z ≤ 0) := by
  apply propext
  unfold sgnI
  split <;> (try split) <;> omega
theorem c_are_close (n : Nat) (x y b : Int) (T : Sto) (hx : Sk 100000 x b) (hy : Sk 100000 y b) : run P (n + 5) 9 [N x b, N y b] T = .ok (.bl (closeB x y)) T := by
  rw [run_def (fd := d9) (η := [.val (N x b), .val (N y b), .no]) rfl rfl rfl]
  have q1 := bits_fst (b := b) hx.bits
  have q2 := bits_fst (b := b) hy.bits
  have hm : bits (num x b).1 + bits (num y b).1 ≤ 100000000 := by omega
  unfold closeB
  by_cases h : x * y ≤ 0
  · have hd : decide (num x b = num y b) = decide (x = y) := decide_eq_decide.mpr num_eq_iff
    simp only [d9, wn, s_for2, for_n, for_c, it_sq, own_get, s_app, LL, List.cons_append, List.nil_append, x_tuple, exB_n, exB_c, e_var, e_cst, e_gfn, e_tup, e_lst, e_bin, e_neg, e_cmp, e_chain, e_and, e_or, e_not, e_ife, e_ix, e_sl, e_call, e_callK, e_b1, e_b2, e_isi, e_bits, o_n, o_s, d_n, d_c, s_asg, s_own, s_frz, s_par2, slX_t, slX_v, slX_l, s_ret, s_retN, s_if, s_brk, s_cnt, s_exp, t_var, t_tup, t_n, t_c, ended_rt, ended_nx, get_0, get_s, put_0, put_s, Re.bind_ok, Re.st_ok, Re.of_some, SR.bind_nx, SR.bind_rt, W.st_v, W.st_t, W.i?_int, W.b?_bl, List.length_cons, List.length_nil, Nat.zero_add, Nat.reduceAdd, Nat.reduceLT, ↓reduceIte, if_true, if_false, Bool.false_eq_true, Bool.false_and, Bool.and_false, Bool.true_or, Bool.or_true, Bool.true_and, Bool.and_true, Bool.false_or, Bool.or_false, x_pr0, i_mul hm, c_le, sign_prod, h, decide_true, c_eqN, hd]
  · have ax : Sk 100000 (absI x) b := ⟨by rw [bits_abs]; exact hx.bits, hx.lo, hx.hi⟩
    have ay : Sk 100000 (absI y) b := ⟨by rw [bits_abs]; exact hy.bits, hy.lo, hy.hi⟩
    have tx : Sk 100001 (2 * absI x) b := by have := ax.add ax; rw [show absI x + absI x = 2 * absI x by omega] at this; exact this
    have ty : Sk 100001 (2 * absI y) b := by have := ay.add ay; rw [show absI y + absI y = 2 * absI y by omega] at this; exact this
    have o1 := c_order_of n (absI x) (2 * absI y) b T (ax.sm (by omega)) (ty.sm (by omega))
    have o2 := c_order_of n (absI y) (2 * absI x) b T (ay.sm (by omega)) (tx.sm (by omega))
    have l0 : ∀ {u v : D}, ixW T (.v (.lst [u, v])) (.v (.int 0)) = some (.v u) := rfl
    have l1 : ∀ {u v : D}, ixW T (.v (.lst [u, v])) (.v (.int 1)) = some (.v v) := rfl
    have e1 : (absI x - 2 * absI y ≤ 0) = (absI x ≤ 2 * absI y) := propext ⟨fun h => by omega, fun h => by omega⟩
    have e2 : (absI y - 2 * absI x ≤ 0) = (absI y ≤ 2 * absI x) := propext ⟨fun h => by omega, fun h => by omega⟩
    simp only [d9, wn, s_for2, for_n, for_c, it_sq, own_get, s_app, LL, List.cons_append, List.nil_append, x_tuple, exB_n, exB_c, e_var, e_cst, e_gfn, e_tup, e_lst, e_bin, e_neg, e_cmp, e_chain, e_and, e_or, e_not, e_ife, e_ix, e_sl, e_call, e_callK, e_b1, e_b2, e_isi, e_bits, o_n, o_s, d_n, d_c, s_asg, s_own, s_frz, s_par2, slX_t, slX_v, slX_l, s_ret, s_retN, s_if, s_brk, s_cnt, s_exp, t_var, t_tup, t_n, t_c, ended_rt, ended_nx, get_0, get_s, put_0, put_s, Re.bind_ok, Re.st_ok, Re.of_some, SR.bind_nx, SR.bind_rt, W.st_v, W.st_t, W.i?_int, W.b?_bl, List.length_cons, List.length_nil, Nat.zero_add, Nat.reduceAdd, Nat.reduceLT, ↓reduceIte, if_true, if_false, Bool.false_eq_true, Bool.false_and, Bool.and_false, Bool.true_or, Bool.or_true, Bool.true_and, Bool.and_true, Bool.false_or, Bool.or_false, x_pr0, x_pr1, i_mul hm, c_le, sign_prod, h, decide_false, x_abs, N_abs, l0, l1, c_times_two, N_up1, o1, o2, sgn_le, e1, e2]
    by_cases g : absI x ≤ 2 * absI y
    · simp only [g, decide_true, if_true, wn, s_for2, for_n, for_c, it_sq, own_get, s_app, LL, List.cons_append, List.nil_append, x_tuple, exB_n, exB_c, e_var, e_cst, e_gfn, e_tup, e_lst, e_bin, e_neg, e_cmp, e_chain, e_and, e_or, e_not, e_ife, e_ix, e_sl, e_call, e_callK, e_b1, e_b2, e_isi, e_bits, o_n, o_s, d_n, d_c, s_asg, s_own, s_frz, s_par2, slX_t, slX_v, slX_l, s_ret, s_retN, s_if, s_brk, s_cnt, s_exp, t_var, t_tup, t_n, t_c, ended_rt, ended_nx, get_0, get_s, put_0, put_s, Re.bind_ok, Re.st_ok, Re.of_some, SR.bind_nx, SR.bind_rt, W.st_v, W.st_t, W.i?_int, W.b?_bl, List.length_cons, List.length_nil, Nat.zero_add, Nat.reduceAdd, Nat.reduceLT, ↓reduceIte, if_true, if_false, Bool.false_eq_true, Bool.false_and, Bool.and_false, Bool.true_or, Bool.or_true, Bool.true_and, Bool.and_true, Bool.false_or, Bool.or_false, o2, l0, l1, c_le, sgn_le, e2, N_up1, c_times_two]
    · simp only [g, decide_false, wn, s_for2, for_n, for_c, it_sq, own_get, s_app, LL, List.cons_append, List.nil_append, x_tuple, exB_n, exB_c, e_var, e_cst, e_gfn, e_tup, e_lst, e_bin, e_neg, e_cmp, e_chain, e_and, e_or, e_not, e_ife, e_ix, e_sl, e_call, e_callK, e_b1, e_b2, e_isi, e_bits, o_n, o_s, d_n, d_c, s_asg, s_own, s_frz, s_par2, slX_t, slX_v, slX_l, s_ret, s_retN, s_if, s_brk, s_cnt, s_exp, t_var, t_tup, t_n, t_c, ended_rt, ended_nx, get_0, get_s, put_0, put_s, Re.bind_ok, Re.st_ok, Re.of_some, SR.bind_nx, SR.bind_rt, W.st_v, W.st_t, W.i?_int, W.b?_bl, List.length_cons, List.length_nil, Nat.zero_add, Nat.reduceAdd, Nat.reduceLT, ↓reduceIte, if_true, if_false, Bool.false_eq_true, Bool.false_and, Bool.and_false, Bool.true_or, Bool.or_true, Bool.true_and, Bool.and_true, Bool.false_or, Bool.or_false]
theorem c_difference_fits (n p : Nat) (x y b : Int) (T : Sto) (hx : Sm x b) (hy : Sm y b) : run P (n + 4) 10 [.int p, N x b, N y b] T = .ok (.bl (decide (bits (num (x - y) b).1 ≤ p))) T := by
  have h := c_exact_less n x y b T hx hy
  have h2 := c_fits (n + 1) p (num (x - y) b) T
  change run P (n + 3) _ _ T = _ at h2
  rw [run_def (fd := d10) (η := [.val (.int p), .val (N x b), .val (N y b)]) rfl rfl rfl]
  simp only [d10, wn, s_for2, for_n, for_c, it_sq, own_get, s_app, LL, List.cons_append, List.nil_append, x_tuple, exB_n, exB_c, e_var, e_cst, e_gfn, e_tup, e_lst, e_bin, e_neg, e_cmp, e_chain, e_and, e_or, e_not, e_ife, e_ix, e_sl, e_call, e_callK, e_b1, e_b2, e_isi, e_bits, o_n, o_s, d_n, d_c, s_asg, s_own, s_frz, s_par2, slX_t, slX_v, slX_l, s_ret, s_retN, s_if, s_brk, s_cnt, s_exp, t_var, t_tup, t_n, t_c, ended_rt, ended_nx, get_0, get_s, put_0, put_s, Re.bind_ok, Re.st_ok, Re.of_some, SR.bind_nx, SR.bind_rt, W.st_v, W.st_t, W.i?_int, W.b?_bl, List.length_cons, List.length_nil, Nat.zero_add, Nat.reduceAdd, Nat.reduceLT, ↓reduceIte, if_true, if_false, Bool.false_eq_true, Bool.false_and, Bool.and_false, Bool.true_or, Bool.or_true, Bool.true_and, Bool.and_true, Bool.false_or, Bool.or_false, h, h2]
theorem c_sum_fits (n p : Nat) (x y b : Int) (T : Sto) (hx : Sm x b) (hy : Sm y b) : run P (n + 3) 11 [.int p, N x b, N y b] T = .ok (.bl (decide (bits (num (x + y) b).1 ≤ p))) T := by
  have h := c_exact_sum n x y b T hx hy
  have h2 := c_fits n p (num (x + y) b) T
  rw [run_def (fd := d11) (η := [.val (.int p), .val (N x b), .val (N y b)]) rfl rfl rfl]
  simp only [d11, wn, s_for2, for_n, for_c, it_sq, own_get, s_app, LL, List.cons_append, List.nil_append, x_tuple, exB_n, exB_c, e_var, e_cst, e_gfn, e_tup, e_lst, e_bin, e_neg, e_cmp, e_chain, e_and, e_or, e_not, e_ife, e_ix, e_sl, e_call, e_callK, e_b1, e_b2, e_isi, e_bits, o_n, o_s, d_n, d_c, s_asg, s_own, s_frz, s_par2, slX_t, slX_v, slX_l, s_ret, s_retN, s_if, s_brk, s_cnt, s_exp, t_var, t_tup, t_n, t_c, ended_rt, ended_nx, get_0, get_s, put_0, put_s, Re.bind_ok, Re.st_ok, Re.of_some, SR.bind_nx, SR.bind_rt, W.st_v, W.st_t, W.i?_int, W.b?_bl, List.length_cons, List.length_nil, Nat.zero_add, Nat.reduceAdd, Nat.reduceLT, ↓reduceIte, if_true, if_false, Bool.false_eq_true, Bool.false_and, Bool.and_false, Bool.true_or, Bool.or_true, Bool.true_and, Bool.and_true, Bool.false_or, Bool.or_false, h, h2]
theorem c_close_ends_ex (n p : Nat) (x b : Int) (T : Sto) (h : x = 0 ∨ ¬ bits (num x b).1 ≤ p) : run P (n + 3) 12 [.int p, N x b] T = .ex 1 [] T := by
  rw [run_def (fd := d12) (η := [.val (.int p), .val (N x b), .no, .no]) rfl rfl rfl]
  have e0 : D.tup [.int 0, .int 0] = N 0 b := rfl
  have hd : decide (num x b = num 0 b) = decide (x = 0) := decide_eq_decide.mpr num_eq_iff
  have h2 := c_fits n p (num x b) T
  by_cases hx : x = 0
  · simp only [d12, wn, s_for2, for_n, for_c, it_sq, own_get, s_app, LL, List.cons_append, List.nil_append, x_tuple, exB_n, exB_c, e_var, e_cst, e_gfn, e_tup, e_lst, e_bin, e_neg, e_cmp, e_chain, e_and, e_or, e_not, e_ife, e_ix, e_sl, e_call, e_callK, e_b1, e_b2, e_isi, e_bits, o_n, o_s, d_n, d_c, s_asg, s_own, s_frz, s_par2, slX_t, slX_v, slX_l, s_ret, s_retN, s_if, s_brk, s_cnt, s_exp, t_var, t_tup, t_n, t_c, ended_rt, ended_nx, get_0, get_s, put_0, put_s, Re.bind_ok, Re.st_ok, Re.of_some, SR.bind_nx, SR.bind_rt, W.st_v, W.st_t, W.i?_int, W.b?_bl, List.length_cons, List.length_nil, Nat.zero_add, Nat.reduceAdd, Nat.reduceLT, ↓reduceIte, if_true, if_false, Bool.false_eq_true, Bool.false_and, Bool.and_false, Bool.true_or, Bool.or_true, Bool.true_and, Bool.and_true, Bool.false_or, Bool.or_false, e0, c_eqN, hd, hx, decide_true, s_raise, mkPl, SR.bind_ex, ended]
  · have hb := h.resolve_left hx
    simp only [d12, wn, s_for2, for_n, for_c, it_sq, own_get, s_app, LL, List.cons_append, List.nil_append, x_tuple, exB_n, exB_c, e_var, e_cst, e_gfn, e_tup, e_lst, e_bin, e_neg, e_cmp, e_chain, e_and, e_or, e_not, e_ife, e_ix, e_sl, e_call, e_callK, e_b1, e_b2, e_isi, e_bits, o_n, o_s, d_n, d_c, s_asg, s_own, s_frz, s_par2, slX_t, slX_v, slX_l, s_ret, s_retN, s_if, s_brk, s_cnt, s_exp, t_var, t_tup, t_n, t_c, ended_rt, ended_nx, get_0, get_s, put_0, put_s, Re.bind_ok, Re.st_ok, Re.of_some, SR.bind_nx, SR.bind_rt, W.st_v, W.st_t, W.i?_int, W.b?_bl, List.length_cons, List.length_nil, Nat.zero_add, Nat.reduceAdd, Nat.reduceLT, ↓reduceIte, if_true, if_false, Bool.false_eq_true, Bool.false_and, Bool.and_false, Bool.true_or, Bool.or_true, Bool.true_and, Bool.and_true, Bool.false_or, Bool.or_false, e0, c_eqN, hd, hx, h2, hb, decide_false, s_raise, mkPl, SR.bind_ex, ended, Bool.not_false]
theorem c_close_ends (n p : Nat) (x b : Int) (T : Sto) (h : x ≠ 0) (hb : bits (num x b).1 ≤ p) : run P (n + 3) 12 [.int p, N x b] T = .ok (if 0 < x then .tup [N x (b - 1), N x (b + 1)] else .tup [N x (b + 1), N x (b - 1)]) T := by
  rw [run_def (fd := d12) (η := [.val (.int p), .val (N x b), .no, .no]) rfl rfl rfl]
  have e0 : D.tup [.int 0, .int 0] = N 0 b := rfl
  have hd : decide (num x b = num 0 b) = decide (x = 0) := decide_eq_decide.mpr num_eq_iff
  have h2 := c_fits n p (num x b) T
  have s1 := @num_sign1 x b
  have e1 : b + -1 = b - 1 := rfl
  by_cases g : 0 < x
  · simp only [d12, wn, s_for2, for_n, for_c, it_sq, own_get, s_app, LL, List.cons_append, List.nil_append, x_tuple, exB_n, exB_c, e_var, e_cst, e_gfn, e_tup, e_lst, e_bin, e_neg, e_cmp, e_chain, e_and, e_or, e_not, e_ife, e_ix, e_sl, e_call, e_callK, e_b1, e_b2, e_isi, e_bits, o_n, o_s, d_n, d_c, s_asg, s_own, s_frz, s_par2, slX_t, slX_v, slX_l, s_ret, s_retN, s_if, s_brk, s_cnt, s_exp, t_var, t_tup, t_n, t_c, ended_rt, ended_nx, get_0, get_s, put_0, put_s, Re.bind_ok, Re.st_ok, Re.of_some, SR.bind_nx, SR.bind_rt, W.st_v, W.st_t, W.i?_int, W.b?_bl, List.length_cons, List.length_nil, Nat.zero_add, Nat.reduceAdd, Nat.reduceLT, ↓reduceIte, if_true, if_false, Bool.false_eq_true, Bool.false_and, Bool.and_false, Bool.true_or, Bool.or_true, Bool.true_and, Bool.and_true, Bool.false_or, Bool.or_false, e0, c_eqN, hd, h, h2, hb, decide_false, decide_true, Bool.not_true, c_times_two, x_pr0, c_gt, s1, g, e1]
  · simp only [d12, wn, s_for2, for_n, for_c, it_sq, own_get, s_app, LL, List.cons_append, List.nil_append, x_tuple, exB_n, exB_c, e_var, e_cst, e_gfn, e_tup, e_lst, e_bin, e_neg, e_cmp, e_chain, e_and, e_or, e_not, e_ife, e_ix, e_sl, e_call, e_callK, e_b1, e_b2, e_isi, e_bits, o_n, o_s, d_n, d_c, s_asg, s_own, s_frz, s_par2, slX_t, slX_v, slX_l, s_ret, s_retN, s_if, s_brk, s_cnt, s_exp, t_var, t_tup, t_n, t_c, ended_rt, ended_nx, get_0, get_s, put_0, put_s, Re.bind_ok, Re.st_ok, Re.of_some, SR.bind_nx, SR.bind_rt, W.st_v, W.st_t, W.i?_int, W.b?_bl, List.length_cons, List.length_nil, Nat.zero_add, Nat.reduceAdd, Nat.reduceLT, ↓reduceIte, if_true, if_false, Bool.false_eq_true, Bool.false_and, Bool.and_false, Bool.true_or, Bool.or_true, Bool.true_and, Bool.and_true, Bool.false_or, Bool.or_false, e0, c_eqN, hd, h, h2, hb, decide_false, decide_true, Bool.not_true, c_times_two, x_pr0, c_gt, s1, g, e1]
theorem c_apart_pair (n p : Nat) (k : Int) (T : Sto) (hp : p ≤ 4000) : run P (n + 2) 13 [.int p, .int k] T = .ok (.tup [N 1 (k + 2), N (2 ^ p - 1) (k + 1 - p)]) T := by
  rw [run_def (fd := d13) (η := [.val (.int p), .val (.int k)]) rfl rfl rfl]
  have hb1 : bits (1 : Int) = 1 := by decide
  have f2 : (1 : Int) * 2 ^ ((p : Nat) : Int).toNat = 2 ^ p := by rw [Int.one_mul]; rfl
  have e1 : D.tup [.int 1, .int (k + 2)] = N 1 (k + 2) := (N_odd (by decide)).symm
  simp (disch := omega) only [d13, wn, s_for2, for_n, for_c, it_sq, own_get, s_app, LL, List.cons_append, List.nil_append, x_tuple, exB_n, exB_c, e_var, e_cst, e_gfn, e_tup, e_lst, e_bin, e_neg, e_cmp, e_chain, e_and, e_or, e_not, e_ife, e_ix, e_sl, e_call, e_callK, e_b1, e_b2, e_isi, e_bits, o_n, o_s, d_n, d_c, s_asg, s_own, s_frz, s_par2, slX_t, slX_v, slX_l, s_ret, s_retN, s_if, s_brk, s_cnt, s_exp, t_var, t_tup, t_n, t_c, ended_rt, ended_nx, get_0, get_s, put_0, put_s, Re.bind_ok, Re.st_ok, Re.of_some, SR.bind_nx, SR.bind_rt, W.st_v, W.st_t, W.i?_int, W.b?_bl, List.length_cons, List.length_nil, Nat.zero_add, Nat.reduceAdd, Nat.reduceLT, ↓reduceIte, if_true, if_false, Bool.false_eq_true, Bool.false_and, Bool.and_false, Bool.true_or, Bool.or_true, Bool.true_and, Bool.and_true, Bool.false_or, Bool.or_false, i_add, i_sub, i_shl, f2, c_number_of, e1]
theorem c_full_form (n p : Nat) (x b : Int) (T : Sto) (h : x ≠ 0) (hb : bits (num x b).1 ≤ p) (hp : p ≤ 4000) : run P (n + 3) 8 [.int p, N x b] T = .ok (.tup [.int ((num x b).1 * 2 ^ (p - bits (num x b).1)), .int ((num x b).2 - (p - bits (num x b).1 : Nat))]) T := by
  rw [run_def (fd := d8) (η := [.val (.int p), .val (N x b), .no]) rfl rfl rfl]
  have e0 : D.tup [.int 0, .int 0] = N 0 b := rfl
  have hd : decide (num x b = num 0 b) = decide (x = 0) := decide_eq_decide.mpr num_eq_iff
  have h2 := c_fits n p (num x b) T
  have h3 := c_figures_of (n + 1) (num x b) T
  have f1 : (p : Int) - (bits (num x b).1 : Nat) = (p - bits (num x b).1 : Nat) := by omega
  have f2 : (((p - bits (num x b).1 : Nat) : Nat) : Int).toNat = p - bits (num x b).1 := by omega
  have hd2 : (bits (num x b).1 : Int) + ((p - bits (num x b).1 : Nat) : Nat) ≤ 100000000 := by omega
  have hd3 : (0 : Int) ≤ ((p - bits (num x b).1 : Nat) : Nat) := by omega
  simp only [d8, wn, s_for2, for_n, for_c, it_sq, own_get, s_app, LL, List.cons_append, List.nil_append, x_tuple, exB_n, exB_c, e_var, e_cst, e_gfn, e_tup, e_lst, e_bin, e_neg, e_cmp, e_chain, e_and, e_or, e_not, e_ife, e_ix, e_sl, e_call, e_callK, e_b1, e_b2, e_isi, e_bits, o_n, o_s, d_n, d_c, s_asg, s_own, s_frz, s_par2, slX_t, slX_v, slX_l, s_ret, s_retN, s_if, s_brk, s_cnt, s_exp, t_var, t_tup, t_n, t_c, ended_rt, ended_nx, get_0, get_s, put_0, put_s, Re.bind_ok, Re.st_ok, Re.of_some, SR.bind_nx, SR.bind_rt, W.st_v, W.st_t, W.i?_int, W.b?_bl, List.length_cons, List.length_nil, Nat.zero_add, Nat.reduceAdd, Nat.reduceLT, ↓reduceIte, if_true, if_false, Bool.false_eq_true, Bool.false_and, Bool.and_false, Bool.true_or, Bool.or_true, Bool.true_and, Bool.and_true, Bool.false_or, Bool.or_false, e0, c_eqN, hd, h, h2, hb, decide_false, decide_true, Bool.not_true, h3, i_sub, f1, x_pr0, x_pr1, i_shl hd3 hd2, f2]
theorem c_rank_of (n p : Nat) (x b : Int) (T : Sto) (h : x ≠ 0) (hb : bits (num x b).1 ≤ p) (hp : p ≤ 4000) (hp1 : 1 ≤ p) (hs : Sk 100000 x b) : run P (n + 4) 14 [.int p, N x b] T = .ok (.int (((num x b).2 - (p - bits (num x b).1 : Nat)) * 2 ^ (p - 1) + absI ((num x b).1 * 2 ^ (p - bits (num x b).1)))) T := by
  rw [run_def (fd := d14) (η := [.val (.int p), .val (N x b), .no, .no]) rfl rfl rfl]
  have h2 := c_full_form n p x b T h hb hp
  have f1 : (p : Int) - 1 = (p - 1 : Nat) := by omega
  have f2 : (((p - 1 : Nat) : Nat) : Int).toNat = p - 1 := by omega
  have hn := num_bd (b := b) hs.bits
  have hlo := hs.lo
  have hhi := hs.hi
  have hsm : bits ((num x b).2 - (p - bits (num x b).1 : Nat)) ≤ 30 := small_bits (by omega) (by omega)
  have hd2 : (bits ((num x b).2 - (p - bits (num x b).1 : Nat)) : Int) + ((p - 1 : Nat) : Nat) ≤ 100000000 := by omega
  have hd3 : (0 : Int) ≤ ((p - 1 : Nat) : Nat) := by omega
  simp only [d14, wn, s_for2, for_n, for_c, it_sq, own_get, s_app, LL, List.cons_append, List.nil_append, x_tuple, exB_n, exB_c, e_var, e_cst, e_gfn, e_tup, e_lst, e_bin, e_neg, e_cmp, e_chain, e_and, e_or, e_not, e_ife, e_ix, e_sl, e_call, e_callK, e_b1, e_b2, e_isi, e_bits, o_n, o_s, d_n, d_c, s_asg, s_own, s_frz, s_par2, slX_t, slX_v, slX_l, s_ret, s_retN, s_if, s_brk, s_cnt, s_exp, t_var, t_tup, t_n, t_c, ended_rt, ended_nx, get_0, get_s, put_0, put_s, Re.bind_ok, Re.st_ok, Re.of_some, SR.bind_nx, SR.bind_rt, W.st_v, W.st_t, W.i?_int, W.b?_bl, List.length_cons, List.length_nil, Nat.zero_add, Nat.reduceAdd, Nat.reduceLT, ↓reduceIte, if_true, if_false, Bool.false_eq_true, Bool.false_and, Bool.and_false, Bool.true_or, Bool.or_true, Bool.true_and, Bool.and_true, Bool.false_or, Bool.or_false, h2, i_sub, f1, i_shl hd3 hd2, f2, x_abs, i_add]
theorem c_steps_ends (n p : Nat) (x b : Int) (T : Sto) (h : x ≠ 0) (hb : bits (num x b).1 ≤ p) (hp : p ≤ 4000) (hp1 : 1 ≤ p) (hs : Sk 90000 x b) (h1 : -900000 ≤ b) (h2 : b ≤ 900000) :
    run P (n + 5) 15 [.int p, N x (b - 1), N x (b + 1)] T = .ok (.int (2 ^ p)) T ∧ run P (n + 5) 15 [.int p, N x (b + 1), N x (b - 1)] T = .ok (.int (2 ^ p)) T := by
  have e1 : num x (b - 1) = ((num x b).1, (num x b).2 - 1) := (num_move h (e := -1)).symm
  have e2 : num x (b + 1) = ((num x b).1, (num x b).2 + 1) := (num_move h).symm
  have s1 : Sk 100000 x (b - 1) := ⟨by have := hs.bits; omega, by omega, by omega⟩
  have s2 : Sk 100000 x (b + 1) := ⟨by have := hs.bits; omega, by omega, by omega⟩
  have hb1 : bits (num x (b - 1)).1 ≤ p := by rw [e1]; exact hb
  have hb2 : bits (num x (b + 1)).1 ≤ p := by rw [e2]; exact hb
  have r1 := c_rank_of n p x (b - 1) T h hb1 hp hp1 s1
  have r2 := c_rank_of n p x (b + 1) T h hb2 hp hp1 s2
  have g1 := c_fits (n + 2) p (num x (b - 1)) T
  have g2 := c_fits (n + 2) p (num x (b + 1)) T
  have hm1 : bits (num x (b - 1)).1 + bits (num x (b + 1)).1 ≤ 100000000 := by omega
  have hm2 : bits (num x (b + 1)).1 + bits (num x (b - 1)).1 ≤ 100000000 := by omega
  have hx2 : ¬ x * x ≤ 0 := by
    have : 0 < x * x := by
      rcases Int.lt_or_gt_of_ne h with h | h
      · have := Int.mul_pos_of_neg_of_neg h h; exact this
      · exact Int.mul_pos h h
    omega
  have eP := pow_dbl hp1
  have hP := pow_pos2 (p - 1)
  simp only [hb1, hb2, decide_true] at g1 g2
  have e1f : (num x (b - 1)).1 = (num x b).1 := by rw [e1]
  have e1s : (num x (b - 1)).2 = (num x b).2 - 1 := by rw [e1]
  have e2f : (num x (b + 1)).1 = (num x b).1 := by rw [e2]
  have e2s : (num x (b + 1)).2 = (num x b).2 + 1 := by rw [e2]
  rw [e1f, e1s] at r1
  rw [e2f, e2s] at r2
  generalize absI ((num x b).1 * 2 ^ (p - bits (num x b).1)) = A at *
  generalize (num x b).2 = c at *
  generalize ((p - bits (num x b).1 : Nat) : Int) = q at *
  have f1 : (c + 1 - q) * 2 ^ (p - 1) = (c - 1 - q) * 2 ^ (p - 1) + 2 ^ p := by
    rw [eP, show c + 1 - q = (c - 1 - q) + 2 by omega, Int.add_mul]
  rw [f1] at r2
  generalize (c - 1 - q) * 2 ^ (p - 1) = R at *
  generalize hW : (2 : Int) ^ p = V2 at *
  have f2 : (if R + A - (R + V2 + A) < 0 then -(R + A - (R + V2 + A)) else R + A - (R + V2 + A)) = V2 := by split <;> omega
  have f3 : (if R + V2 + A - (R + A) < 0 then -(R + V2 + A - (R + A)) else R + V2 + A - (R + A)) = V2 := by split <;> omega
  constructor
  · rw [run_def (fd := d15) (η := [.val (.int p), .val (N x (b - 1)), .val (N x (b + 1))]) rfl rfl rfl]
    simp only [d15, wn, s_for2, for_n, for_c, it_sq, own_get, s_app, LL, List.cons_append, List.nil_append, x_tuple, exB_n, exB_c, e_var, e_cst, e_gfn, e_tup, e_lst, e_bin, e_neg, e_cmp, e_chain, e_and, e_or, e_not, e_ife, e_ix, e_sl, e_call, e_callK, e_b1, e_b2, e_isi, e_bits, o_n, o_s, d_n, d_c, s_asg, s_own, s_frz, s_par2, slX_t, slX_v, slX_l, s_ret, s_retN, s_if, s_brk, s_cnt, s_exp, t_var, t_tup, t_n, t_c, ended_rt, ended_nx, get_0, get_s, put_0, put_s, Re.bind_ok, Re.st_ok, Re.of_some, SR.bind_nx, SR.bind_rt, W.st_v, W.st_t, W.i?_int, W.b?_bl, List.length_cons, List.length_nil, Nat.zero_add, Nat.reduceAdd, Nat.reduceLT, ↓reduceIte, if_true, if_false, Bool.false_eq_true, Bool.false_and, Bool.and_false, Bool.true_or, Bool.or_true, Bool.true_and, Bool.and_true, Bool.false_or, Bool.or_false, g1, g2, Bool.not_true, x_pr0, i_mul hm1, c_le, sign_prod, hx2, decide_false, r1, r2, i_sub, x_abs, f2]
  · rw [run_def (fd := d15) (η := [.val (.int p), .val (N x (b + 1)), .val (N x (b - 1))]) rfl rfl rfl]
    simp only [d15, wn, s_for2, for_n, for_c, it_sq, own_get, s_app, LL, List.cons_append, List.nil_append, x_tuple, exB_n, exB_c, e_var, e_cst, e_gfn, e_tup, e_lst, e_bin, e_neg, e_cmp, e_chain, e_and, e_or, e_not, e_ife, e_ix, e_sl, e_call, e_callK, e_b1, e_b2, e_isi, e_bits, o_n, o_s, d_n, d_c, s_asg, s_own, s_frz, s_par2, slX_t, slX_v, slX_l, s_ret, s_retN, s_if, s_brk, s_cnt, s_exp, t_var, t_tup, t_n, t_c, ended_rt, ended_nx, get_0, get_s, put_0, put_s, Re.bind_ok, Re.st_ok, Re.of_some, SR.bind_nx, SR.bind_rt, W.st_v, W.st_t, W.i?_int, W.b?_bl, List.length_cons, List.length_nil, Nat.zero_add, Nat.reduceAdd, Nat.reduceLT, ↓reduceIte, if_true, if_false, Bool.false_eq_true, Bool.false_and, Bool.and_false, Bool.true_or, Bool.or_true, Bool.true_and, Bool.and_true, Bool.false_or, Bool.or_false, g1, g2, Bool.not_true, x_pr0, i_mul hm2, c_le, sign_prod, hx2, decide_false, r1, r2, i_sub, x_abs, f3]
end K06
namespace K06
open Ev PySem
theorem l_sum (n : Nat) (x y b : Int) (T : Sto) (hx : Sm x b) (hy : Sm y b) : run P (n + 2) 27 [N x b, N y b] T = .ok (N (x + y) b) T := by
  obtain ⟨h1, h2, h3, h4⟩ := sm_shift rfl rfl hx hy
  show run P (n + 2) 27 [pr (num x b), pr (num y b)] T = .ok (pr (num (x + y) b)) T
  rw [← num_add]
  have e : low2 (num x b) (num y b) = if (num x b).2 < (num y b).2 then (num x b).2 else (num y b).2 := by
    unfold low2
    split <;> split <;> omega
  generalize num x b = a at *
  generalize num y b = c at *
  rw [run_def (fd := d27) (η := [.val (pr a), .val (pr c), .no]) rfl rfl rfl]
  by_cases h : a.2 < c.2
  · rw [if_pos h] at e
    rw [e] at h1 h2 h3 h4 ⊢
    simp (disch := omega) only [d27, wn, s_for2, for_n, for_c, it_sq, own_get, s_app, LL, List.cons_append, List.nil_append, x_tuple, exB_n, exB_c, e_var, e_cst, e_gfn, e_tup, e_lst, e_bin, e_neg, e_cmp, e_chain, e_and, e_or, e_not, e_ife, e_ix, e_sl, e_call, e_callK, e_b1, e_b2, e_isi, e_bits, o_n, o_s, d_n, d_c, s_asg, s_own, s_frz, s_par2, slX_t, slX_v, slX_l, s_ret, s_retN, s_if, s_brk, s_cnt, s_exp, t_var, t_tup, t_n, t_c, ended_rt, ended_nx, get_0, get_s, put_0, put_s, Re.bind_ok, Re.st_ok, Re.of_some, SR.bind_nx, SR.bind_rt, W.st_v, W.st_t, W.i?_int, W.b?_bl, List.length_cons, List.length_nil, Nat.zero_add, Nat.reduceAdd, Nat.reduceLT, ↓reduceIte, if_true, if_false, Bool.false_eq_true, Bool.false_and, Bool.and_false, Bool.true_or, Bool.or_true, Bool.true_and, Bool.and_true, Bool.false_or, Bool.or_false, x_pr0, x_pr1, c_lt, h, decide_true, i_add, i_sub, i_shl, l_num]
  · rw [if_neg h] at e
    rw [e] at h1 h2 h3 h4 ⊢
    simp (disch := omega) only [d27, wn, s_for2, for_n, for_c, it_sq, own_get, s_app, LL, List.cons_append, List.nil_append, x_tuple, exB_n, exB_c, e_var, e_cst, e_gfn, e_tup, e_lst, e_bin, e_neg, e_cmp, e_chain, e_and, e_or, e_not, e_ife, e_ix, e_sl, e_call, e_callK, e_b1, e_b2, e_isi, e_bits, o_n, o_s, d_n, d_c, s_asg, s_own, s_frz, s_par2, slX_t, slX_v, slX_l, s_ret, s_retN, s_if, s_brk, s_cnt, s_exp, t_var, t_tup, t_n, t_c, ended_rt, ended_nx, get_0, get_s, put_0, put_s, Re.bind_ok, Re.st_ok, Re.of_some, SR.bind_nx, SR.bind_rt, W.st_v, W.st_t, W.i?_int, W.b?_bl, List.length_cons, List.length_nil, Nat.zero_add, Nat.reduceAdd, Nat.reduceLT, ↓reduceIte, if_true, if_false, Bool.false_eq_true, Bool.false_and, Bool.and_false, Bool.true_or, Bool.or_true, Bool.true_and, Bool.and_true, Bool.false_or, Bool.or_false, x_pr0, x_pr1, c_lt, h, decide_false, i_add, i_sub, i_shl, l_num]
theorem l_less (n : Nat) (x y b : Int) (T : Sto) (hx : Sm x b) (hy : Sm y b) : run P (n + 3) 28 [N x b, N y b] T = .ok (N (x - y) b) T := by
  have h := l_sum n x (-y) b T hx hy.neg
  rw [← Int.sub_eq_add_neg] at h
  rw [run_def (fd := d28) (η := [.val (N x b), .val (N y b)]) rfl rfl rfl]
  simp only [d28, wn, s_for2, for_n, for_c, it_sq, own_get, s_app, LL, List.cons_append, List.nil_append, x_tuple, exB_n, exB_c, e_var, e_cst, e_gfn, e_tup, e_lst, e_bin, e_neg, e_cmp, e_chain, e_and, e_or, e_not, e_ife, e_ix, e_sl, e_call, e_callK, e_b1, e_b2, e_isi, e_bits, o_n, o_s, d_n, d_c, s_asg, s_own, s_frz, s_par2, slX_t, slX_v, slX_l, s_ret, s_retN, s_if, s_brk, s_cnt, s_exp, t_var, t_tup, t_n, t_c, ended_rt, ended_nx, get_0, get_s, put_0, put_s, Re.bind_ok, Re.st_ok, Re.of_some, SR.bind_nx, SR.bind_rt, W.st_v, W.st_t, W.i?_int, W.b?_bl, List.length_cons, List.length_nil, Nat.zero_add, Nat.reduceAdd, Nat.reduceLT, ↓reduceIte, if_true, if_false, Bool.false_eq_true, Bool.false_and, Bool.and_false, Bool.true_or, Bool.or_true, Bool.true_and, Bool.and_true, Bool.false_or, Bool.or_false, x_pr0, x_pr1, N_neg, h]
theorem l_rounded (n p : Nat) (w : Str) (x b : Int) (T : Sto) (hp : 1 ≤ p) (hx : Sm x b) (hw : isWord w) : run P (n + 2) 29 [.int p, .str w, N x b] T = .ok (N (rn p w x) b) T := by
  obtain ⟨hm, hE⟩ := num_bd (b := b) hx.bits
  have hlo := hx.lo
  have hhi := hx.hi
  rw [← cut_N hp, ← N_self]
  have hN0 : N (num x b).1 (num x b).2 = pr (num x b) := by rw [N_self]
  rw [hN0]
  generalize num x b = a at *
  obtain ⟨m, e⟩ := a
  simp only at hm hE hN0 ⊢
  have hba : bits (if m < 0 then -m else m) = bits m := bits_abs
  have hN1 : N m e = .tup [.int m, .int e] := hN0
  clear hN0
  show run P (n + 2) 29 [.int p, .str w, .tup [.int m, .int e]] T = _
  rw [run_def (fd := d29) (η := [.val (.int p), .val (.str w), .val (.tup [.int m, .int e]), .no, .no, .no, .no, .no, .no, .no, .no]) rfl rfl rfl]
  by_cases h : bits m ≤ p
  · have h1 : (bits m : Int) - p ≤ 0 := by omega
    simp only [d29, wn, s_for2, for_n, for_c, it_sq, own_get, s_app, LL, List.cons_append, List.nil_append, x_tuple, exB_n, exB_c, e_var, e_cst, e_gfn, e_tup, e_lst, e_bin, e_neg, e_cmp, e_chain, e_and, e_or, e_not, e_ife, e_ix, e_sl, e_call, e_callK, e_b1, e_b2, e_isi, e_bits, o_n, o_s, d_n, d_c, s_asg, s_own, s_frz, s_par2, slX_t, slX_v, slX_l, s_ret, s_retN, s_if, s_brk, s_cnt, s_exp, t_var, t_tup, t_n, t_c, ended_rt, ended_nx, get_0, get_s, put_0, put_s, Re.bind_ok, Re.st_ok, Re.of_some, SR.bind_nx, SR.bind_rt, W.st_v, W.st_t, W.i?_int, W.b?_bl, List.length_cons, List.length_nil, Nat.zero_add, Nat.reduceAdd, Nat.reduceLT, ↓reduceIte, if_true, if_false, Bool.false_eq_true, Bool.false_and, Bool.and_false, Bool.true_or, Bool.or_true, Bool.true_and, Bool.and_true, Bool.false_or, Bool.or_false, x_pr0, x_pr1, x_abs, hba, i_sub, c_le, h1, decide_true, rn_id h, hN1]
  have h0 : m ≠ 0 := fun z => by
    subst z
    rw [bits_zero] at h
    omega
  have h1 : ¬ (bits m : Int) - p ≤ 0 := by omega
  have hK : (bits m : Int) - p = (cutK p m : Nat) := by unfold cutK; omega
  have hK2 : cutK p m ≤ 1000000 := by unfold cutK; omega
  have hK1 : 1 ≤ cutK p m := by unfold cutK; omega
  have hpk := pow_pos2 (cutK p m)
  have hq : rnQ p w m = (if 0 < (if m < 0 then -m else m) % 2 ^ cutK p m ∧ upW w ((if m < 0 then -m else m) / 2 ^ cutK p m) (2 * ((if m < 0 then -m else m) % 2 ^ cutK p m) - 2 ^ cutK p m) (decide (m < 0)) = true then (if m < 0 then -m else m) / 2 ^ cutK p m + 1 else (if m < 0 then -m else m) / 2 ^ cutK p m) := rfl
  have hQb : bits ((if m < 0 then -m else m) / 2 ^ cutK p m) ≤ p := by
    have q1 := quo_lt (p := p) (n := m) (by omega)
    have q2 := quo_ge hp (show p < bits m by omega)
    have q3 := pow_pos2 (p - 1)
    exact small_bits (by omega) q1
  have hR0 : 0 < (if m < 0 then -m else m) % 2 ^ cutK p m ∨ (if m < 0 then -m else m) % 2 ^ cutK p m = 0 := by
    have := Int.emod_nonneg (if m < 0 then -m else m) (show (2 : Int) ^ cutK p m ≠ 0 by omega)
    omega
  -- an odd number loses something
  have hodd : m % 2 = 1 := by
    rcases hE with ⟨_, hE⟩ | ⟨_, _, hE⟩
    · exact absurd hE h0
    · exact hE
  have hpos : 0 < (if m < 0 then -m else m) % 2 ^ cutK p m := by
    rcases hR0 with h | h
    · exact h
    · exfalso
      have d := Int.dvd_of_emod_eq_zero h
      have d2 : (2 : Int) ∣ 2 ^ cutK p m := by
        obtain ⟨j, hj⟩ : ∃ j, cutK p m = j + 1 := ⟨cutK p m - 1, by omega⟩
        rw [hj, Int.pow_succ]
        exact ⟨2 ^ j, by rw [Int.mul_comm]⟩
      have d3 := Int.dvd_trans d2 d
      split at d3 <;> omega
  have hN : N (rn p w m) e = N (rnq p w m) (e + (cutK p m : Nat)) := congrArg pr (rn_num hp (show p < bits m by omega)).symm
  rw [hN]
  unfold rnq
  rw [hq]
  obtain ⟨h2, hh2⟩ : ∃ h2 : Int, 2 ^ cutK p m = 2 * h2 ∧ (1 : Int) * 2 ^ ((cutK p m : Nat) - 1 : Int).toNat = h2 := by
    obtain ⟨j, hj⟩ : ∃ j, cutK p m = j + 1 := ⟨cutK p m - 1, by omega⟩
    refine ⟨2 ^ j, by rw [hj, Int.pow_succ, Int.mul_comm], ?_⟩
    rw [hj, Int.one_mul]
    congr 1
    omega
  obtain ⟨hh2, hh3⟩ := hh2
  generalize hA : (if m < 0 then -m else m) = A at *
  generalize cutK p m = K at *
  have hR : A - A / 2 ^ K * 2 ^ K = A % 2 ^ K := by
    rw [Int.emod_def, Int.mul_comm]
  generalize A % 2 ^ K = R at *
  generalize hQ : A / 2 ^ K = Q at *
  have f1 : A / 2 ^ ((K : Nat) : Int).toNat = Q := by rw [← hQ]; rfl
  have f2 : Q * 2 ^ ((K : Nat) : Int).toNat = Q * 2 ^ K := rfl
  have hb1 : bits (1 : Int) = 1 := by decide
  have xa : ∀ T, b1W .abs T (.v (.int m)) = some (.v (.int A)) := fun T => by rw [x_abs, hA]
  have hK0 : ¬ ((K : Nat) : Int) ≤ 0 := by omega
  have e0 : (0 < m) = ¬ (m < 0) := by
    apply propext
    omega
  have hs1 : (0 < 2 * R - 2 ^ K) = (h2 < R) := by apply propext; omega
  have hs2 : (2 * R - 2 ^ K = 0) = (R = h2) := by apply propext; omega
  have bb : ∀ (T : Sto) (a b : Bool), cmpW .Eq T (.v (.bl a)) (.v (.bl b)) = some (a == b) := fun _ _ _ => rfl
  clear hA
  rcases hw with rfl | rfl | rfl | rfl | rfl
  · rw [up_down]
    by_cases hm0 : m < 0 <;>
    simp (disch := omega) only [d29, wn, s_for2, for_n, for_c, it_sq, own_get, s_app, LL, List.cons_append, List.nil_append, x_tuple, exB_n, exB_c, e_var, e_cst, e_gfn, e_tup, e_lst, e_bin, e_neg, e_cmp, e_chain, e_and, e_or, e_not, e_ife, e_ix, e_sl, e_call, e_callK, e_b1, e_b2, e_isi, e_bits, o_n, o_s, d_n, d_c, s_asg, s_own, s_frz, s_par2, slX_t, slX_v, slX_l, s_ret, s_retN, s_if, s_brk, s_cnt, s_exp, t_var, t_tup, t_n, t_c, ended_rt, ended_nx, get_0, get_s, put_0, put_s, Re.bind_ok, Re.st_ok, Re.of_some, SR.bind_nx, SR.bind_rt, W.st_v, W.st_t, W.i?_int, W.b?_bl, List.length_cons, List.length_nil, Nat.zero_add, Nat.reduceAdd, Nat.reduceLT, ↓reduceIte, if_true, if_false, Bool.false_eq_true, Bool.false_and, Bool.and_false, Bool.true_or, Bool.or_true, Bool.true_and, Bool.and_true, Bool.false_or, Bool.or_false, x_pr0, x_pr1, wNear_, wOdd_, wUp_, wDown_, wZero_, ne_DownNear, ne_DownOdd, ne_DownUp, ne_DownZero, xa, hba, i_sub, c_le, c_lt, hK0, hK, decide_true, decide_false, i_shr, f1, i_shl, f2, hR, hh3, i_mul, c_eqs, c_gt, c_eq, i_and1, ok_or, ok_and, Bool.or_false, Bool.false_or, Bool.and_true, Bool.true_and, e0, hm0, hpos, not_true_eq_false, not_false_eq_true, true_and, and_true, false_and, and_false, i_add, l_num, bb, b_tf, b_ft, beq_self_eq_true]
  · rw [up_near]
    simp only [hs1, hs2]
    cases hu : (decide (h2 < R) || (decide (R = h2) && decide (Q % 2 = 1))) <;> by_cases hm0 : m < 0 <;>
    simp (disch := omega) only [d29, wn, s_for2, for_n, for_c, it_sq, own_get, s_app, LL, List.cons_append, List.nil_append, x_tuple, exB_n, exB_c, e_var, e_cst, e_gfn, e_tup, e_lst, e_bin, e_neg, e_cmp, e_chain, e_and, e_or, e_not, e_ife, e_ix, e_sl, e_call, e_callK, e_b1, e_b2, e_isi, e_bits, o_n, o_s, d_n, d_c, s_asg, s_own, s_frz, s_par2, slX_t, slX_v, slX_l, s_ret, s_retN, s_if, s_brk, s_cnt, s_exp, t_var, t_tup, t_n, t_c, ended_rt, ended_nx, get_0, get_s, put_0, put_s, Re.bind_ok, Re.st_ok, Re.of_some, SR.bind_nx, SR.bind_rt, W.st_v, W.st_t, W.i?_int, W.b?_bl, List.length_cons, List.length_nil, Nat.zero_add, Nat.reduceAdd, Nat.reduceLT, ↓reduceIte, if_true, if_false, Bool.false_eq_true, Bool.false_and, Bool.and_false, Bool.true_or, Bool.or_true, Bool.true_and, Bool.and_true, Bool.false_or, Bool.or_false, x_pr0, x_pr1, wNear_, wOdd_, wUp_, wDown_, wZero_, ne_NearDown, ne_NearOdd, ne_NearUp, ne_NearZero, xa, hba, i_sub, c_le, c_lt, hK0, hK, decide_true, decide_false, i_shr, f1, i_shl, f2, hR, hh3, i_mul, c_eqs, c_gt, c_eq, i_and1, ok_or, ok_and, hu, Bool.or_false, Bool.false_or, Bool.and_true, Bool.true_and, e0, hm0, hpos, not_true_eq_false, not_false_eq_true, true_and, and_true, false_and, and_false, i_add, l_num, bb]
  · rw [up_odd]
    cases hu : decide (Q % 2 = 0) <;> by_cases hm0 : m < 0 <;>
    simp (disch := omega) only [d29, wn, s_for2, for_n, for_c, it_sq, own_get, s_app, LL, List.cons_append, List.nil_append, x_tuple, exB_n, exB_c, e_var, e_cst, e_gfn, e_tup, e_lst, e_bin, e_neg, e_cmp, e_chain, e_and, e_or, e_not, e_ife, e_ix, e_sl, e_call, e_callK, e_b1, e_b2, e_isi, e_bits, o_n, o_s, d_n, d_c, s_asg, s_own, s_frz, s_par2, slX_t, slX_v, slX_l, s_ret, s_retN, s_if, s_brk, s_cnt, s_exp, t_var, t_tup, t_n, t_c, ended_rt, ended_nx, get_0, get_s, put_0, put_s, Re.bind_ok, Re.st_ok, Re.of_some, SR.bind_nx, SR.bind_rt, W.st_v, W.st_t, W.i?_int, W.b?_bl, List.length_cons, List.length_nil, Nat.zero_add, Nat.reduceAdd, Nat.reduceLT, ↓reduceIte, if_true, if_false, Bool.false_eq_true, Bool.false_and, Bool.and_false, Bool.true_or, Bool.or_true, Bool.true_and, Bool.and_true, Bool.false_or, Bool.or_false, x_pr0, x_pr1, wNear_, wOdd_, wUp_, wDown_, wZero_, ne_OddDown, ne_OddNear, ne_OddUp, ne_OddZero, xa, hba, i_sub, c_le, c_lt, hK0, hK, decide_true, decide_false, i_shr, f1, i_shl, f2, hR, hh3, i_mul, c_eqs, c_gt, c_eq, i_and1, ok_or, ok_and, hu, Bool.or_false, Bool.false_or, Bool.and_true, Bool.true_and, e0, hm0, hpos, not_true_eq_false, not_false_eq_true, true_and, and_true, false_and, and_false, i_add, l_num, bb]
  · rw [up_up h0]
    by_cases hm0 : m < 0 <;>
    simp (disch := omega) only [d29, wn, s_for2, for_n, for_c, it_sq, own_get, s_app, LL, List.cons_append, List.nil_append, x_tuple, exB_n, exB_c, e_var, e_cst, e_gfn, e_tup, e_lst, e_bin, e_neg, e_cmp, e_chain, e_and, e_or, e_not, e_ife, e_ix, e_sl, e_call, e_callK, e_b1, e_b2, e_isi, e_bits, o_n, o_s, d_n, d_c, s_asg, s_own, s_frz, s_par2, slX_t, slX_v, slX_l, s_ret, s_retN, s_if, s_brk, s_cnt, s_exp, t_var, t_tup, t_n, t_c, ended_rt, ended_nx, get_0, get_s, put_0, put_s, Re.bind_ok, Re.st_ok, Re.of_some, SR.bind_nx, SR.bind_rt, W.st_v, W.st_t, W.i?_int, W.b?_bl, List.length_cons, List.length_nil, Nat.zero_add, Nat.reduceAdd, Nat.reduceLT, ↓reduceIte, if_true, if_false, Bool.false_eq_true, Bool.false_and, Bool.and_false, Bool.true_or, Bool.or_true, Bool.true_and, Bool.and_true, Bool.false_or, Bool.or_false, x_pr0, x_pr1, wNear_, wOdd_, wUp_, wDown_, wZero_, ne_UpNear, ne_UpOdd, ne_UpDown, ne_UpZero, xa, hba, i_sub, c_le, c_lt, hK0, hK, decide_true, decide_false, i_shr, f1, i_shl, f2, hR, hh3, i_mul, c_eqs, c_gt, c_eq, i_and1, ok_or, ok_and, Bool.or_false, Bool.false_or, Bool.and_true, Bool.true_and, e0, hm0, hpos, not_true_eq_false, not_false_eq_true, true_and, and_true, false_and, and_false, i_add, l_num, bb, b_tf, b_ft, beq_self_eq_true]
  · rw [up_zero]
    by_cases hm0 : m < 0 <;>
    simp (disch := omega) only [d29, wn, s_for2, for_n, for_c, it_sq, own_get, s_app, LL, List.cons_append, List.nil_append, x_tuple, exB_n, exB_c, e_var, e_cst, e_gfn, e_tup, e_lst, e_bin, e_neg, e_cmp, e_chain, e_and, e_or, e_not, e_ife, e_ix, e_sl, e_call, e_callK, e_b1, e_b2, e_isi, e_bits, o_n, o_s, d_n, d_c, s_asg, s_own, s_frz, s_par2, slX_t, slX_v, slX_l, s_ret, s_retN, s_if, s_brk, s_cnt, s_exp, t_var, t_tup, t_n, t_c, ended_rt, ended_nx, get_0, get_s, put_0, put_s, Re.bind_ok, Re.st_ok, Re.of_some, SR.bind_nx, SR.bind_rt, W.st_v, W.st_t, W.i?_int, W.b?_bl, List.length_cons, List.length_nil, Nat.zero_add, Nat.reduceAdd, Nat.reduceLT, ↓reduceIte, if_true, if_false, Bool.false_eq_true, Bool.false_and, Bool.and_false, Bool.true_or, Bool.or_true, Bool.true_and, Bool.and_true, Bool.false_or, Bool.or_false, x_pr0, x_pr1, wNear_, wOdd_, wUp_, wDown_, wZero_, ne_ZeroNear, ne_ZeroOdd, ne_ZeroDown, ne_ZeroUp, xa, hba, i_sub, c_le, c_lt, hK0, hK, decide_true, decide_false, i_shr, f1, i_shl, f2, hR, hh3, i_mul, c_eqs, c_gt, c_eq, i_and1, ok_or, ok_and, Bool.or_false, Bool.false_or, Bool.and_true, Bool.true_and, e0, hm0, hpos, not_true_eq_false, not_false_eq_true, true_and, and_true, false_and, and_false, i_add, l_num, bb]
theorem l_same_loop (n : Nat) (T : Sto) (a b : D) : ∀ ds : List D, (∀ d, d ∈ ds → run P n 30 [d, d] T = .ok (.bl true) T) → lcL (.tup [.var 2, .var 3]) [.val a, .val b, .no, .no] (fun η T => lcF (run P n) (.call 30 [.var 2, .var 3]) none η T) (zipL ds ds) T = .ok (ds.map fun _ => .bl true) T
  | [], _ => by rw [show zipL [] [] = [] from rfl, lcL]; rfl
  | d :: ds, h => by
    have ih := l_same_loop n T a b ds fun d' m => h d' (List.mem_cons_of_mem _ m)
    have h1 := h d List.mem_cons_self
    have e0 : zipL (d :: ds) (d :: ds) = .tup [d, d] :: zipL ds ds := rfl
    rw [e0, lcL]
    have ea : asgT (.tup [.var 2, .var 3]) (.tup [d, d]) [.val a, .val b, .no, .no] = some [.val a, .val b, .val d, .val d] := rfl
    have ef : lcF (run P n) (.call 30 [.var 2, .var 3]) none [.val a, .val b, .val d, .val d] T = .ok (some (.bl true)) T := by
      unfold lcF
      simp only [wn, s_for2, for_n, for_c, it_sq, own_get, s_app, LL, List.cons_append, List.nil_append, x_tuple, exB_n, exB_c, e_var, e_cst, e_gfn, e_tup, e_lst, e_bin, e_neg, e_cmp, e_chain, e_and, e_or, e_not, e_ife, e_ix, e_sl, e_call, e_callK, e_b1, e_b2, e_isi, e_bits, o_n, o_s, d_n, d_c, s_asg, s_own, s_frz, s_par2, slX_t, slX_v, slX_l, s_ret, s_retN, s_if, s_brk, s_cnt, s_exp, t_var, t_tup, t_n, t_c, ended_rt, ended_nx, get_0, get_s, put_0, put_s, Re.bind_ok, Re.st_ok, Re.of_some, SR.bind_nx, SR.bind_rt, W.st_v, W.st_t, W.i?_int, W.b?_bl, List.length_cons, List.length_nil, Nat.zero_add, Nat.reduceAdd, Nat.reduceLT, ↓reduceIte, if_true, if_false, Bool.false_eq_true, Bool.false_and, Bool.and_false, Bool.true_or, Bool.or_true, Bool.true_and, Bool.and_true, Bool.false_or, Bool.or_false, h1]
    rw [ea]
    simp only [ef, Re.calm_ok, Re.bind_ok, ih]
    rfl
theorem l_same : ∀ (n : Nat) (d : D) (T : Sto), plainI n d → run P (n + 1) 30 [d, d] T = .ok (.bl true) T := by
  intro n
  have leaf : ∀ (n : Nat) (d : D) (T : Sto), (d = .non ∨ (∃ b, d = .bl b) ∨ ∃ i, d = .int i) → run P (n + 1) 30 [d, d] T = .ok (.bl true) T := by
    intro n d T h
    rw [run_def (fd := d30) (η := [.val (d), .val (d), .no, .no]) rfl rfl rfl]
    rcases h with rfl | ⟨b, rfl⟩ | ⟨i, rfl⟩
    · simp only [d30, wn, s_for2, for_n, for_c, it_sq, own_get, s_app, LL, List.cons_append, List.nil_append, x_tuple, exB_n, exB_c, e_var, e_cst, e_gfn, e_tup, e_lst, e_bin, e_neg, e_cmp, e_chain, e_and, e_or, e_not, e_ife, e_ix, e_sl, e_call, e_callK, e_b1, e_b2, e_isi, e_bits, o_n, o_s, d_n, d_c, s_asg, s_own, s_frz, s_par2, slX_t, slX_v, slX_l, s_ret, s_retN, s_if, s_brk, s_cnt, s_exp, t_var, t_tup, t_n, t_c, ended_rt, ended_nx, get_0, get_s, put_0, put_s, Re.bind_ok, Re.st_ok, Re.of_some, SR.bind_nx, SR.bind_rt, W.st_v, W.st_t, W.i?_int, W.b?_bl, List.length_cons, List.length_nil, Nat.zero_add, Nat.reduceAdd, Nat.reduceLT, ↓reduceIte, if_true, if_false, Bool.false_eq_true, Bool.false_and, Bool.and_false, Bool.true_or, Bool.or_true, Bool.true_and, Bool.and_true, Bool.false_or, Bool.or_false, isiW, cmpW, isW, isNon, isBl, beq_self_eq_true, Bool.not_false, Bool.not_true]
    · cases b <;> simp only [d30, wn, s_for2, for_n, for_c, it_sq, own_get, s_app, LL, List.cons_append, List.nil_append, x_tuple, exB_n, exB_c, e_var, e_cst, e_gfn, e_tup, e_lst, e_bin, e_neg, e_cmp, e_chain, e_and, e_or, e_not, e_ife, e_ix, e_sl, e_call, e_callK, e_b1, e_b2, e_isi, e_bits, o_n, o_s, d_n, d_c, s_asg, s_own, s_frz, s_par2, slX_t, slX_v, slX_l, s_ret, s_retN, s_if, s_brk, s_cnt, s_exp, t_var, t_tup, t_n, t_c, ended_rt, ended_nx, get_0, get_s, put_0, put_s, Re.bind_ok, Re.st_ok, Re.of_some, SR.bind_nx, SR.bind_rt, W.st_v, W.st_t, W.i?_int, W.b?_bl, List.length_cons, List.length_nil, Nat.zero_add, Nat.reduceAdd, Nat.reduceLT, ↓reduceIte, if_true, if_false, Bool.false_eq_true, Bool.false_and, Bool.and_false, Bool.true_or, Bool.or_true, Bool.true_and, Bool.and_true, Bool.false_or, Bool.or_false, isiW, cmpW, isW, isNon, isBl, beq_self_eq_true, Bool.not_false, Bool.not_true, b_tf, b_ft]
    · have z1 : cmpW .Is T (.v (.int i)) (.v .non) = some false := rfl
      have z2 : ∀ b, cmpW .Is T (.v (.int i)) (.v (.bl b)) = some false := fun _ => rfl
      simp only [d30, wn, s_for2, for_n, for_c, it_sq, own_get, s_app, LL, List.cons_append, List.nil_append, x_tuple, exB_n, exB_c, e_var, e_cst, e_gfn, e_tup, e_lst, e_bin, e_neg, e_cmp, e_chain, e_and, e_or, e_not, e_ife, e_ix, e_sl, e_call, e_callK, e_b1, e_b2, e_isi, e_bits, o_n, o_s, d_n, d_c, s_asg, s_own, s_frz, s_par2, slX_t, slX_v, slX_l, s_ret, s_retN, s_if, s_brk, s_cnt, s_exp, t_var, t_tup, t_n, t_c, ended_rt, ended_nx, get_0, get_s, put_0, put_s, Re.bind_ok, Re.st_ok, Re.of_some, SR.bind_nx, SR.bind_rt, W.st_v, W.st_t, W.i?_int, W.b?_bl, List.length_cons, List.length_nil, Nat.zero_add, Nat.reduceAdd, Nat.reduceLT, ↓reduceIte, if_true, if_false, Bool.false_eq_true, Bool.false_and, Bool.and_false, Bool.true_or, Bool.or_true, Bool.true_and, Bool.and_true, Bool.false_or, Bool.or_false, isiW, z1, z2, c_eq, decide_true, Bool.not_false, Bool.not_true]
  induction n with
  | zero =>
    intro d T h
    cases d with
    | non => exact leaf 0 _ T (.inl rfl)
    | bl b => exact leaf 0 _ T (.inr (.inl ⟨b, rfl⟩))
    | int i => exact leaf 0 _ T (.inr (.inr ⟨i, rfl⟩))
    | _ => exact absurd h (by simp [plainI])
  | succ n ih =>
    intro d T h
    cases d with
    | non => exact leaf _ _ T (.inl rfl)
    | bl b => exact leaf _ _ T (.inr (.inl ⟨b, rfl⟩))
    | int i => exact leaf _ _ T (.inr (.inr ⟨i, rfl⟩))
    | tup ds =>
      rw [run_def (fd := d30) (η := [.val (.tup ds), .val (.tup ds), .no, .no]) rfl rfl rfl]
      have hd : ∀ d, d ∈ ds → plainI n d := h.2
      have lp := l_same_loop (n + 1) T (.tup ds) (.tup ds) ds fun d m => ih d T (hd d m)
      have ez : evI (run P (n + 1)) (.zip [.var 0, .var 1]) [.val (.tup ds), .val (.tup ds), .no, .no] T = .ok (zipL ds ds) T := by
        rw [evI]
        simp only [wn, s_for2, for_n, for_c, it_sq, own_get, s_app, LL, List.cons_append, List.nil_append, x_tuple, exB_n, exB_c, e_var, e_cst, e_gfn, e_tup, e_lst, e_bin, e_neg, e_cmp, e_chain, e_and, e_or, e_not, e_ife, e_ix, e_sl, e_call, e_callK, e_b1, e_b2, e_isi, e_bits, o_n, o_s, d_n, d_c, s_asg, s_own, s_frz, s_par2, slX_t, slX_v, slX_l, s_ret, s_retN, s_if, s_brk, s_cnt, s_exp, t_var, t_tup, t_n, t_c, ended_rt, ended_nx, get_0, get_s, put_0, put_s, Re.bind_ok, Re.st_ok, Re.of_some, SR.bind_nx, SR.bind_rt, W.st_v, W.st_t, W.i?_int, W.b?_bl, List.length_cons, List.length_nil, Nat.zero_add, Nat.reduceAdd, Nat.reduceLT, ↓reduceIte, if_true, if_false, Bool.false_eq_true, Bool.false_and, Bool.and_false, Bool.true_or, Bool.or_true, Bool.true_and, Bool.and_true, Bool.false_or, Bool.or_false]
      have hl : ¬ LL < (zipL ds ds).length := by
        have : (zipL ds ds).length = ds.length := by simp [zipL]
        rw [this]
        have := h.1
        show ¬ (1000000 : Nat) < ds.length
        omega
      have el : evE (run P (n + 1)) (.lc (.call 30 [.var 2, .var 3]) (.tup [.var 2, .var 3]) (.zip [.var 0, .var 1]) none [2, 3]) [.val (.tup ds), .val (.tup ds), .no, .no] T = .ok (.l true (ds.map fun _ => .bl true)) T := by
        rw [evE_lc, ez, Re.bind_ok, if_neg hl]
        show (lcL _ [.val (.tup ds), .val (.tup ds), .no, .no] _ _ _).bind _ = _
        rw [lp]
        rfl
      have eall : b1W .all T (.l true (ds.map fun _ => D.bl true)) = some (.v (.bl true)) := by
        have hb : ∀ ds : List D, blsD (ds.map fun _ => D.bl true) = some (ds.map fun _ => true) := by
          intro ds
          induction ds with
          | nil => rfl
          | cons d ds ih => rw [List.map_cons, blsD, ih]; rfl
        show onBls T (.l true (ds.map fun _ => D.bl true)) _ = _
        unfold onBls
        simp only [W.seq, hb]
        congr 3
        simp
      have z1 : cmpW .Is T (.v (.tup ds)) (.v .non) = some false := rfl
      have z2 : ∀ b, cmpW .Is T (.v (.tup ds)) (.v (.bl b)) = some false := fun _ => rfl
      simp only [d30, wn, s_for2, for_n, for_c, it_sq, own_get, s_app, LL, List.cons_append, List.nil_append, x_tuple, exB_n, exB_c, e_var, e_cst, e_gfn, e_tup, e_lst, e_bin, e_neg, e_cmp, e_chain, e_and, e_or, e_not, e_ife, e_ix, e_sl, e_call, e_callK, e_b1, e_b2, e_isi, e_bits, o_n, o_s, d_n, d_c, s_asg, s_own, s_frz, s_par2, slX_t, slX_v, slX_l, s_ret, s_retN, s_if, s_brk, s_cnt, s_exp, t_var, t_tup, t_n, t_c, ended_rt, ended_nx, get_0, get_s, put_0, put_s, Re.bind_ok, Re.st_ok, Re.of_some, SR.bind_nx, SR.bind_rt, W.st_v, W.st_t, W.i?_int, W.b?_bl, List.length_cons, List.length_nil, Nat.zero_add, Nat.reduceAdd, Nat.reduceLT, ↓reduceIte, if_true, if_false, Bool.false_eq_true, Bool.false_and, Bool.and_false, Bool.true_or, Bool.or_true, Bool.true_and, Bool.and_true, Bool.false_or, Bool.or_false, isiW, len_tup, c_ne, z1, z2, decide_true, el, eall, Bool.not_false, Bool.not_true]
    | _ => exact absurd h (by simp [plainI])
theorem l_fits (n p : Nat) (x : Int × Int) (T : Sto) : run P (n + 1) 39 [.int p, pr x] T = .ok (.bl (decide (bits x.1 ≤ p))) T := by
  rw [run_def (fd := d39) (η := [.val (.int p), .val (pr x)]) rfl rfl rfl]
  simp only [d39, wn, s_for2, for_n, for_c, it_sq, own_get, s_app, LL, List.cons_append, List.nil_append, x_tuple, exB_n, exB_c, e_var, e_cst, e_gfn, e_tup, e_lst, e_bin, e_neg, e_cmp, e_chain, e_and, e_or, e_not, e_ife, e_ix, e_sl, e_call, e_callK, e_b1, e_b2, e_isi, e_bits, o_n, o_s, d_n, d_c, s_asg, s_own, s_frz, s_par2, slX_t, slX_v, slX_l, s_ret, s_retN, s_if, s_brk, s_cnt, s_exp, t_var, t_tup, t_n, t_c, ended_rt, ended_nx, get_0, get_s, put_0, put_s, Re.bind_ok, Re.st_ok, Re.of_some, SR.bind_nx, SR.bind_rt, W.st_v, W.st_t, W.i?_int, W.b?_bl, List.length_cons, List.length_nil, Nat.zero_add, Nat.reduceAdd, Nat.reduceLT, ↓reduceIte, if_true, if_false, Bool.false_eq_true, Bool.false_and, Bool.and_false, Bool.true_or, Bool.or_true, Bool.true_and, Bool.and_true, Bool.false_or, Bool.or_false, x_pr0, x_abs, bits_abs, c_le, Int.ofNat_le]
theorem l_turned (n : Nat) (x b : Int) (T : Sto) : run P (n + 1) 31 [N x b] T = .ok (N (-x) b) T := by
  rw [run_def (fd := d31) (η := [.val (N x b)]) rfl rfl rfl]
  simp only [d31, wn, s_for2, for_n, for_c, it_sq, own_get, s_app, LL, List.cons_append, List.nil_append, x_tuple, exB_n, exB_c, e_var, e_cst, e_gfn, e_tup, e_lst, e_bin, e_neg, e_cmp, e_chain, e_and, e_or, e_not, e_ife, e_ix, e_sl, e_call, e_callK, e_b1, e_b2, e_isi, e_bits, o_n, o_s, d_n, d_c, s_asg, s_own, s_frz, s_par2, slX_t, slX_v, slX_l, s_ret, s_retN, s_if, s_brk, s_cnt, s_exp, t_var, t_tup, t_n, t_c, ended_rt, ended_nx, get_0, get_s, put_0, put_s, Re.bind_ok, Re.st_ok, Re.of_some, SR.bind_nx, SR.bind_rt, W.st_v, W.st_t, W.i?_int, W.b?_bl, List.length_cons, List.length_nil, Nat.zero_add, Nat.reduceAdd, Nat.reduceLT, ↓reduceIte, if_true, if_false, Bool.false_eq_true, Bool.false_and, Bool.and_false, Bool.true_or, Bool.or_true, Bool.true_and, Bool.and_true, Bool.false_or, Bool.or_false, x_pr0, x_pr1, N_neg]
theorem l_close (n : Nat) (x y b : Int) (T : Sto) (hx : Sk 90000 x b) (hy : Sk 90000 y b) : run P (n + 4) 40 [N x b, N y b] T = .ok (.bl (closeB x y)) T := by
  rw [run_def (fd := d40) (η := [.val (N x b), .val (N y b), .no, .no]) rfl rfl rfl]
  have e0 : D.tup [.int 0, .int 0] = N 0 b := rfl
  have hd : ∀ z w : Int, decide (num z b = num w b) = decide (z = w) := fun z w => decide_eq_decide.mpr num_eq_iff
  have cb : ∀ {T : Sto} {k j : Bool}, cmpW .NotEq T (.v (.bl k)) (.v (.bl j)) = some (!(k == j)) := rfl
  have sx := @num_sign1 x b
  have sy := @num_sign1 y b
  unfold closeB
  by_cases hx0 : x = 0
  · have h : x * y ≤ 0 := by rw [hx0, Int.zero_mul]; omega
    simp only [d40, wn, s_for2, for_n, for_c, it_sq, own_get, s_app, LL, List.cons_append, List.nil_append, x_tuple, exB_n, exB_c, e_var, e_cst, e_gfn, e_tup, e_lst, e_bin, e_neg, e_cmp, e_chain, e_and, e_or, e_not, e_ife, e_ix, e_sl, e_call, e_callK, e_b1, e_b2, e_isi, e_bits, o_n, o_s, d_n, d_c, s_asg, s_own, s_frz, s_par2, slX_t, slX_v, slX_l, s_ret, s_retN, s_if, s_brk, s_cnt, s_exp, t_var, t_tup, t_n, t_c, ended_rt, ended_nx, get_0, get_s, put_0, put_s, Re.bind_ok, Re.st_ok, Re.of_some, SR.bind_nx, SR.bind_rt, W.st_v, W.st_t, W.i?_int, W.b?_bl, List.length_cons, List.length_nil, Nat.zero_add, Nat.reduceAdd, Nat.reduceLT, ↓reduceIte, if_true, if_false, Bool.false_eq_true, Bool.false_and, Bool.and_false, Bool.true_or, Bool.or_true, Bool.true_and, Bool.and_true, Bool.false_or, Bool.or_false, e0, c_eqN, hd, hx0, decide_true]
    simp
  by_cases hy0 : y = 0
  · have h : x * y ≤ 0 := by rw [hy0, Int.mul_zero]; omega
    simp only [d40, wn, s_for2, for_n, for_c, it_sq, own_get, s_app, LL, List.cons_append, List.nil_append, x_tuple, exB_n, exB_c, e_var, e_cst, e_gfn, e_tup, e_lst, e_bin, e_neg, e_cmp, e_chain, e_and, e_or, e_not, e_ife, e_ix, e_sl, e_call, e_callK, e_b1, e_b2, e_isi, e_bits, o_n, o_s, d_n, d_c, s_asg, s_own, s_frz, s_par2, slX_t, slX_v, slX_l, s_ret, s_retN, s_if, s_brk, s_cnt, s_exp, t_var, t_tup, t_n, t_c, ended_rt, ended_nx, get_0, get_s, put_0, put_s, Re.bind_ok, Re.st_ok, Re.of_some, SR.bind_nx, SR.bind_rt, W.st_v, W.st_t, W.i?_int, W.b?_bl, List.length_cons, List.length_nil, Nat.zero_add, Nat.reduceAdd, Nat.reduceLT, ↓reduceIte, if_true, if_false, Bool.false_eq_true, Bool.false_and, Bool.and_false, Bool.true_or, Bool.or_true, Bool.true_and, Bool.and_true, Bool.false_or, Bool.or_false, e0, c_eqN, hd, hx0, hy0, decide_true, decide_false]
    simp
  by_cases hs : (0 < x) = (0 < y)
  · have h : ¬ x * y ≤ 0 := by
      by_cases g : 0 < x
      · have g2 : 0 < y := by rw [← hs]; exact g
        have := Int.mul_pos g g2
        omega
      · have g2 : ¬ 0 < y := by rw [← hs]; exact g
        have := Int.mul_pos_of_neg_of_neg (a := x) (b := y) (by omega) (by omega)
        omega
    have ax0 : absI x ≠ 0 := by unfold absI; split <;> omega
    have ay0 : absI y ≠ 0 := by unfold absI; split <;> omega
    have ax : Sk 90000 (absI x) b := ⟨by rw [bits_abs]; exact hx.bits, hx.lo, hx.hi⟩
    have ay : Sk 90000 (absI y) b := ⟨by rw [bits_abs]; exact hy.bits, hy.lo, hy.hi⟩
    have tx : Sk 90001 (2 * absI x) b := by have := ax.add ax; rw [show absI x + absI x = 2 * absI x by omega] at this; exact this
    have ty : Sk 90001 (2 * absI y) b := by have := ay.add ay; rw [show absI y + absI y = 2 * absI y by omega] at this; exact this
    have o1 := l_less n (absI x) (2 * absI y) b T (ax.sm (by omega)) (ty.sm (by omega))
    have o2 := l_less n (absI y) (2 * absI x) b T (ay.sm (by omega)) (tx.sm (by omega))
    have e1 : (absI x - 2 * absI y ≤ 0) = (absI x ≤ 2 * absI y) := propext ⟨fun h => by omega, fun h => by omega⟩
    have e2 : (absI y - 2 * absI x ≤ 0) = (absI y ≤ 2 * absI x) := propext ⟨fun h => by omega, fun h => by omega⟩
    have l1 := @num_le0 (absI x - 2 * absI y) b
    have l2 := @num_le0 (absI y - 2 * absI x) b
    rw [e1] at l1
    rw [e2] at l2
    have hsd : decide (0 < x) = decide (0 < y) := by rw [decide_eq_decide]; exact iff_of_eq hs
    by_cases g : absI x ≤ 2 * absI y
    · simp only [d40, wn, s_for2, for_n, for_c, it_sq, own_get, s_app, LL, List.cons_append, List.nil_append, x_tuple, exB_n, exB_c, e_var, e_cst, e_gfn, e_tup, e_lst, e_bin, e_neg, e_cmp, e_chain, e_and, e_or, e_not, e_ife, e_ix, e_sl, e_call, e_callK, e_b1, e_b2, e_isi, e_bits, o_n, o_s, d_n, d_c, s_asg, s_own, s_frz, s_par2, slX_t, slX_v, slX_l, s_ret, s_retN, s_if, s_brk, s_cnt, s_exp, t_var, t_tup, t_n, t_c, ended_rt, ended_nx, get_0, get_s, put_0, put_s, Re.bind_ok, Re.st_ok, Re.of_some, SR.bind_nx, SR.bind_rt, W.st_v, W.st_t, W.i?_int, W.b?_bl, List.length_cons, List.length_nil, Nat.zero_add, Nat.reduceAdd, Nat.reduceLT, ↓reduceIte, if_true, if_false, Bool.false_eq_true, Bool.false_and, Bool.and_false, Bool.true_or, Bool.or_true, Bool.true_and, Bool.and_true, Bool.false_or, Bool.or_false, e0, c_eqN, hd, hx0, hy0, decide_true, decide_false, x_pr0, x_pr1, c_gt, sx, sy, cb, hsd, beq_self_eq_true, Bool.not_true, x_abs, N_abs, i_add, N_mv ax0, N_mv ay0, N_up1, o1, o2, c_le, l1, l2, h, g]
    · simp only [d40, wn, s_for2, for_n, for_c, it_sq, own_get, s_app, LL, List.cons_append, List.nil_append, x_tuple, exB_n, exB_c, e_var, e_cst, e_gfn, e_tup, e_lst, e_bin, e_neg, e_cmp, e_chain, e_and, e_or, e_not, e_ife, e_ix, e_sl, e_call, e_callK, e_b1, e_b2, e_isi, e_bits, o_n, o_s, d_n, d_c, s_asg, s_own, s_frz, s_par2, slX_t, slX_v, slX_l, s_ret, s_retN, s_if, s_brk, s_cnt, s_exp, t_var, t_tup, t_n, t_c, ended_rt, ended_nx, get_0, get_s, put_0, put_s, Re.bind_ok, Re.st_ok, Re.of_some, SR.bind_nx, SR.bind_rt, W.st_v, W.st_t, W.i?_int, W.b?_bl, List.length_cons, List.length_nil, Nat.zero_add, Nat.reduceAdd, Nat.reduceLT, ↓reduceIte, if_true, if_false, Bool.false_eq_true, Bool.false_and, Bool.and_false, Bool.true_or, Bool.or_true, Bool.true_and, Bool.and_true, Bool.false_or, Bool.or_false, e0, c_eqN, hd, hx0, hy0, decide_true, decide_false, x_pr0, x_pr1, c_gt, sx, sy, cb, hsd, beq_self_eq_true, Bool.not_true, x_abs, N_abs, i_add, N_mv ax0, N_mv ay0, N_up1, o1, o2, c_le, l1, l2, h, g]
  · have h : x * y ≤ 0 := by
      by_cases g : 0 < x
      · have g2 : ¬ 0 < y := fun g2 => hs (by simp [g, g2])
        have := Int.mul_nonneg (a := x) (b := -y) (by omega) (by omega)
        rw [Int.mul_neg] at this
        omega
      · have g2 : 0 < y := by
          by_cases g2 : 0 < y
          · exact g2
          · exact absurd (by simp [g, g2]) hs
        have := Int.mul_nonneg (a := -x) (b := y) (by omega) (by omega)
        rw [Int.neg_mul] at this
        omega
    have hxy : x ≠ y := fun e => hs (by rw [e])
    have hsd : (decide (0 < x) == decide (0 < y)) = false := by
      rw [beq_eq_false_iff_ne]
      intro e
      exact hs (propext (decide_eq_decide.mp e))
    simp only [d40, wn, s_for2, for_n, for_c, it_sq, own_get, s_app, LL, List.cons_append, List.nil_append, x_tuple, exB_n, exB_c, e_var, e_cst, e_gfn, e_tup, e_lst, e_bin, e_neg, e_cmp, e_chain, e_and, e_or, e_not, e_ife, e_ix, e_sl, e_call, e_callK, e_b1, e_b2, e_isi, e_bits, o_n, o_s, d_n, d_c, s_asg, s_own, s_frz, s_par2, slX_t, slX_v, slX_l, s_ret, s_retN, s_if, s_brk, s_cnt, s_exp, t_var, t_tup, t_n, t_c, ended_rt, ended_nx, get_0, get_s, put_0, put_s, Re.bind_ok, Re.st_ok, Re.of_some, SR.bind_nx, SR.bind_rt, W.st_v, W.st_t, W.i?_int, W.b?_bl, List.length_cons, List.length_nil, Nat.zero_add, Nat.reduceAdd, Nat.reduceLT, ↓reduceIte, if_true, if_false, Bool.false_eq_true, Bool.false_and, Bool.and_false, Bool.true_or, Bool.or_true, Bool.true_and, Bool.and_true, Bool.false_or, Bool.or_false, e0, c_eqN, hd, hx0, hy0, decide_false, x_pr0, c_gt, sx, sy, cb, hsd, Bool.not_false, h, hxy]
theorem l_unfit (n p : Nat) (x b : Int) (k : Bool) (T : Sto) (h : x = 0 ∨ ¬ bits (num x b).1 ≤ p) : run P (n + 4) 41 [.int p, N x b, .bl k] T = .ok (.bl true) T := by
  rw [run_def (fd := d41) (η := [.val (.int p), .val (N x b), .val (.bl k), .no]) rfl rfl rfl]
  have h1 := c_close_ends_ex n p x b T h
  cases k
  · simp only [d41, wn, s_for2, for_n, for_c, it_sq, own_get, s_app, LL, List.cons_append, List.nil_append, x_tuple, exB_n, exB_c, e_var, e_cst, e_gfn, e_tup, e_lst, e_bin, e_neg, e_cmp, e_chain, e_and, e_or, e_not, e_ife, e_ix, e_sl, e_call, e_callK, e_b1, e_b2, e_isi, e_bits, o_n, o_s, d_n, d_c, s_asg, s_own, s_frz, s_par2, slX_t, slX_v, slX_l, s_ret, s_retN, s_if, s_brk, s_cnt, s_exp, t_var, t_tup, t_n, t_c, ended_rt, ended_nx, get_0, get_s, put_0, put_s, Re.bind_ok, Re.st_ok, Re.of_some, SR.bind_nx, SR.bind_rt, W.st_v, W.st_t, W.i?_int, W.b?_bl, List.length_cons, List.length_nil, Nat.zero_add, Nat.reduceAdd, Nat.reduceLT, ↓reduceIte, if_true, if_false, Bool.false_eq_true, Bool.false_and, Bool.and_false, Bool.true_or, Bool.or_true, Bool.true_and, Bool.and_true, Bool.false_or, Bool.or_false, s_try, h1, Re.bind_ex, Re.st_ex, SR.bind_ex, errPl, En.errs]
    rfl
  · simp only [d41, wn, s_for2, for_n, for_c, it_sq, own_get, s_app, LL, List.cons_append, List.nil_append, x_tuple, exB_n, exB_c, e_var, e_cst, e_gfn, e_tup, e_lst, e_bin, e_neg, e_cmp, e_chain, e_and, e_or, e_not, e_ife, e_ix, e_sl, e_call, e_callK, e_b1, e_b2, e_isi, e_bits, o_n, o_s, d_n, d_c, s_asg, s_own, s_frz, s_par2, slX_t, slX_v, slX_l, s_ret, s_retN, s_if, s_brk, s_cnt, s_exp, t_var, t_tup, t_n, t_c, ended_rt, ended_nx, get_0, get_s, put_0, put_s, Re.bind_ok, Re.st_ok, Re.of_some, SR.bind_nx, SR.bind_rt, W.st_v, W.st_t, W.i?_int, W.b?_bl, List.length_cons, List.length_nil, Nat.zero_add, Nat.reduceAdd, Nat.reduceLT, ↓reduceIte, if_true, if_false, Bool.false_eq_true, Bool.false_and, Bool.and_false, Bool.true_or, Bool.or_true, Bool.true_and, Bool.and_true, Bool.false_or, Bool.or_false, s_try, h1, pm_01, Re.bind_ex, Re.st_ex, SR.bind_ex, errPl, En.errs]
    rfl
theorem l_fits_right (n p : Nat) (x y b : Int) (T : Sto) (hx : Sk 90000 x b) (hy : Sk 90000 y b) : run P (n + 7) 42 [.int p, N x b, N y b] T = .ok (.bl true) T := by
  rw [run_def (fd := d42) (η := [.val (.int p), .val (N x b), .val (N y b), .no, .no, .no, .no]) rfl rfl rfl]
  have mx := hx.sm (by omega)
  have my := hy.sm (by omega)
  have g1 := l_less (n + 3) x y b T mx my
  have g2 := l_sum (n + 4) x y b T mx my
  have g3 := l_turned (n + 5) y b T
  have g4 := l_fits (n + 5) p (num (x - y) b) T
  have g5 := l_fits (n + 5) p (num (x + y) b) T
  have g6 := c_difference_fits (n + 2) p x y b T mx my
  have g7 := c_difference_fits (n + 2) p y x b T my mx
  have g8 := c_sum_fits (n + 3) p x (-y) b T mx my.neg
  have g9 := c_sum_fits (n + 3) p x y b T mx my
  have g10 := c_sum_fits (n + 3) p y x b T my mx
  have g11 := c_difference_fits (n + 2) p x (-y) b T mx my.neg
  have g12 := c_sum_fits (n + 3) p x x b T mx mx
  have g13 := l_fits (n + 5) p (num x b) T
  rw [show y - x = -(x - y) by omega, num_neg] at g7
  simp only [bits_neg] at g7
  rw [← Int.sub_eq_add_neg] at g8
  rw [Int.add_comm y x] at g10
  rw [Int.sub_neg] at g11
  have e12 : (num (x + x) b).1 = (num x b).1 := by
    by_cases h0 : x = 0
    · subst h0; rfl
    · rw [show x + x = x * 2 ^ 1 by omega, num_shift]
      have := num_move (q := x) (c := b) (e := 1) h0
      exact (congrArg Prod.fst this).symm
  rw [e12] at g12
  generalize decide (bits (num (x - y) b).1 ≤ p) = k1 at *
  generalize decide (bits (num (x + y) b).1 ≤ p) = k2 at *
  generalize decide (bits (num x b).1 ≤ p) = k3 at *
  have i1 := l_same (n + 5) (.tup [.bl k1, .bl k1, .bl k1]) T (pI_3 pI_bl pI_bl pI_bl)
  have i2 := l_same (n + 5) (.tup [.bl k2, .bl k2, .bl k2]) T (pI_3 pI_bl pI_bl pI_bl)
  have i3 := l_same (n + 5) (.bl k3) T pI_bl
  simp only [d42, wn, s_for2, for_n, for_c, it_sq, own_get, s_app, LL, List.cons_append, List.nil_append, x_tuple, exB_n, exB_c, e_var, e_cst, e_gfn, e_tup, e_lst, e_bin, e_neg, e_cmp, e_chain, e_and, e_or, e_not, e_ife, e_ix, e_sl, e_call, e_callK, e_b1, e_b2, e_isi, e_bits, o_n, o_s, d_n, d_c, s_asg, s_own, s_frz, s_par2, slX_t, slX_v, slX_l, s_ret, s_retN, s_if, s_brk, s_cnt, s_exp, t_var, t_tup, t_n, t_c, ended_rt, ended_nx, get_0, get_s, put_0, put_s, Re.bind_ok, Re.st_ok, Re.of_some, SR.bind_nx, SR.bind_rt, W.st_v, W.st_t, W.i?_int, W.b?_bl, List.length_cons, List.length_nil, Nat.zero_add, Nat.reduceAdd, Nat.reduceLT, ↓reduceIte, if_true, if_false, Bool.false_eq_true, Bool.false_and, Bool.and_false, Bool.true_or, Bool.or_true, Bool.true_and, Bool.and_true, Bool.false_or, Bool.or_false, g1, g2, g3, g4, g5, g6, g7, g8, g9, g10, g11, g12, g13, pm_012, i1, i2, i3, Bool.not_true]
theorem l_pair_right (n p : Nat) (x y b : Int) (T : Sto) (hp : 1 ≤ p) (hp2 : p ≤ 4000) (hx : Sk 90000 x b) (hy : Sk 90000 y b) : run P (n + 9) 43 [.int p, N x b, N y b] T = .ok (.bl true) T := by
  suffices h : (run P (n + 9) 43 [.int p, N x b, N y b] T).wp fun d T' => d = .bl true ∧ T' = T by
    obtain ⟨d, T', e, rfl, rfl⟩ := wp_ex h
    exact e
  refine run_wp (fd := d43) (η := [.val (.int p), .val (N x b), .val (N y b), .no, .no, .no]) rfl rfl rfl ?_
  have mx := hx.sm (by omega)
  have my := hy.sm (by omega)
  have md := (hx.sub hy).sm (by omega)
  have g1 : ∀ T, run P (n + 8) 40 [N x b, N y b] T = .ok (.bl (closeB x y)) T := fun T => l_close (n + 4) x y b T hx hy
  have g2 : ∀ T, run P (n + 8) 9 [N x b, N y b] T = .ok (.bl (closeB x y)) T := fun T => c_are_close (n + 3) x y b T (hx.mono (by omega)) (hy.mono (by omega))
  have g3 : ∀ T, run P (n + 8) 9 [N y b, N x b] T = .ok (.bl (closeB x y)) T := fun T => by
    rw [closeB_comm]
    exact c_are_close (n + 3) y x b T (hy.mono (by omega)) (hx.mono (by omega))
  have g4 : ∀ T, run P (n + 8) 42 [.int p, N x b, N y b] T = .ok (.bl true) T := fun T => l_fits_right (n + 1) p x y b T hx hy
  have g5 : ∀ T, run P (n + 8) 28 [N x b, N y b] T = .ok (N (x - y) b) T := fun T => l_less (n + 5) x y b T mx my
  have g6 : ∀ T, run P (n + 8) 4 [N x b, N y b] T = .ok (N (x - y) b) T := fun T => c_exact_less (n + 5) x y b T mx my
  have i1 : ∀ T, run P (n + 8) 30 [.tup [.bl (closeB x y), .bl (closeB x y)], .tup [.bl (closeB x y), .bl (closeB x y)]] T = .ok (.bl true) T := fun T => l_same (n + 7) _ T (pI_2 pI_bl pI_bl)
  have i2 : ∀ z T, run P (n + 8) 30 [N z b, N z b] T = .ok (.bl true) T := fun z T => l_same (n + 7) _ T pI_N
  simp -implicitDefEqProofs (disch := first | omega | assumption) only [d43, g1, g2, g3, g4, g5, g6, i1, i2, pm_01, Bool.not_true, wp_ok, wp_bind, wp_ended, wps_nx, wps_rt, wps_bk, wps_ct, wps_st, wps_bind, wn, own_get, LL, List.cons_append, List.nil_append, x_tuple, slX_t, slX_v, slX_l, t_var, t_tup, t_n, t_c, ended_rt, ended_nx, get_0, get_s, put_0, put_s, Re.bind_ok, Re.st_ok, Re.of_some, SR.bind_nx, SR.bind_rt, W.st_v, W.st_t, W.i?_int, W.b?_bl, List.length_cons, List.length_nil, Nat.zero_add, Nat.reduceAdd, Nat.reduceLT, ↓reduceIte, if_true, if_false, Bool.false_eq_true, Bool.false_and, Bool.and_false, Bool.true_or, Bool.or_true, Bool.true_and, Bool.and_true, Bool.false_or, Bool.or_false, me_var, me_cst, me_gfn, me_tup, me_lst, me_bin, me_neg, me_cmp, me_chain, me_and, me_or, me_not, me_ife, me_ix, me_sl, me_call, me_callK, me_b1, me_b2, me_isi, me_bits, mo_n, mo_s, md_n, md_c, ms_asg, ms_own, ms_frz, ms_ret, ms_retN, ms_if, ms_whl, ms_brk, ms_cnt, ms_exp, ms_app, ms_setL, mexB_n, mexB_c, ms_for2, mit_sq, mit_rvd, mi_rng, mi_rng0, ms_par2]
  refine wpm_forI (fun x => ∃ w, x = .str w ∧ isWord w) (fun η T' => T' = T ∧ ∃ s, η = [.val (.int p), .val (N x b), .val (N y b), .val (.bl (closeB x y)), .val (N (x - y) b), s]) (fun x m => words_mem m) ⟨rfl, _, rfl⟩ ?_ ?_
  · rintro _ η _ ⟨w, rfl, hw⟩ ⟨rfl, s, rfl⟩
    refine ⟨_, rfl, ?_⟩
    have q1 : ∀ T, run P (n + 8) 19 [.int p, .str w, N x b, N y b] T = .ok (N (rn p w (x - y)) b) T := fun T => c_round_less (n + 4) p w x y b T hp hp2 mx my md
    have q2 : ∀ T, run P (n + 8) 29 [.int p, .str w, N (x - y) b] T = .ok (N (rn p w (x - y)) b) T := fun T => l_rounded (n + 6) p w (x - y) b T hp md hw
    simp -implicitDefEqProofs (disch := first | omega | assumption) only [q1, q2, i2, Bool.not_true, wp_ok, wp_bind, wp_ended, wps_nx, wps_rt, wps_bk, wps_ct, wps_st, wps_bind, wn, own_get, LL, List.cons_append, List.nil_append, x_tuple, slX_t, slX_v, slX_l, t_var, t_tup, t_n, t_c, ended_rt, ended_nx, get_0, get_s, put_0, put_s, Re.bind_ok, Re.st_ok, Re.of_some, SR.bind_nx, SR.bind_rt, W.st_v, W.st_t, W.i?_int, W.b?_bl, List.length_cons, List.length_nil, Nat.zero_add, Nat.reduceAdd, Nat.reduceLT, ↓reduceIte, if_true, if_false, Bool.false_eq_true, Bool.false_and, Bool.and_false, Bool.true_or, Bool.or_true, Bool.true_and, Bool.and_true, Bool.false_or, Bool.or_false, me_var, me_cst, me_gfn, me_tup, me_lst, me_bin, me_neg, me_cmp, me_chain, me_and, me_or, me_not, me_ife, me_ix, me_sl, me_call, me_callK, me_b1, me_b2, me_isi, me_bits, mo_n, mo_s, md_n, md_c, ms_asg, ms_own, ms_frz, ms_ret, ms_retN, ms_if, ms_whl, ms_brk, ms_cnt, ms_exp, ms_app, ms_setL, mexB_n, mexB_c, ms_for2, mit_sq, mit_rvd, mi_rng, mi_rng0, ms_par2]
    exact ⟨rfl, _, rfl⟩
  · rintro η _ ⟨rfl, s, rfl⟩
    simp -implicitDefEqProofs (disch := first | omega | assumption) only [wp_ok, wp_bind, wp_ended, wps_nx, wps_rt, wps_bk, wps_ct, wps_st, wps_bind, wn, own_get, LL, List.cons_append, List.nil_append, x_tuple, slX_t, slX_v, slX_l, t_var, t_tup, t_n, t_c, ended_rt, ended_nx, get_0, get_s, put_0, put_s, Re.bind_ok, Re.st_ok, Re.of_some, SR.bind_nx, SR.bind_rt, W.st_v, W.st_t, W.i?_int, W.b?_bl, List.length_cons, List.length_nil, Nat.zero_add, Nat.reduceAdd, Nat.reduceLT, ↓reduceIte, if_true, if_false, Bool.false_eq_true, Bool.false_and, Bool.and_false, Bool.true_or, Bool.or_true, Bool.true_and, Bool.and_true, Bool.false_or, Bool.or_false, me_var, me_cst, me_gfn, me_tup, me_lst, me_bin, me_neg, me_cmp, me_chain, me_and, me_or, me_not, me_ife, me_ix, me_sl, me_call, me_callK, me_b1, me_b2, me_isi, me_bits, mo_n, mo_s, md_n, md_c, ms_asg, ms_own, ms_frz, ms_ret, ms_retN, ms_if, ms_whl, ms_brk, ms_cnt, ms_exp, ms_app, ms_setL, mexB_n, mexB_c, ms_for2, mit_sq, mit_rvd, mi_rng, mi_rng0, ms_par2]
    exact ⟨trivial, rfl⟩
end K06
namespace K06
open Ev PySem
theorem l_ends_right (n p : Nat) (x b : Int) (T : Sto) (hp : 1 ≤ p) (hp2 : p ≤ 4000) (hx : Sk 80000 x b) (hb1 : -900000 ≤ b) (hb2 : b ≤ 900000) : run P (n + 8) 44 [.int p, N x b] T = .ok (.bl true) T := by
  have e0 : D.tup [.int 0, .int 0] = N 0 b := rfl
  have hd : decide (num x b = num 0 b) = decide (x = 0) := decide_eq_decide.mpr num_eq_iff
  have g1 := l_fits (n + 6) p (num x b) T
  by_cases hx0 : x = 0 ∨ ¬ bits (num x b).1 ≤ p
  · have u1 := l_unfit (n + 3) p x b false T hx0
    have u2 := l_unfit (n + 3) p x b true T hx0
    rw [run_def (fd := d44) (η := [.val (.int p), .val (N x b), .no, .no, .no, .no]) rfl rfl rfl]
    by_cases h0 : x = 0
    · simp only [d44, wn, s_for2, for_n, for_c, it_sq, own_get, s_app, LL, List.cons_append, List.nil_append, x_tuple, exB_n, exB_c, e_var, e_cst, e_gfn, e_tup, e_lst, e_bin, e_neg, e_cmp, e_chain, e_and, e_or, e_not, e_ife, e_ix, e_sl, e_call, e_callK, e_b1, e_b2, e_isi, e_bits, o_n, o_s, d_n, d_c, s_asg, s_own, s_frz, s_par2, slX_t, slX_v, slX_l, s_ret, s_retN, s_if, s_brk, s_cnt, s_exp, t_var, t_tup, t_n, t_c, ended_rt, ended_nx, get_0, get_s, put_0, put_s, Re.bind_ok, Re.st_ok, Re.of_some, SR.bind_nx, SR.bind_rt, W.st_v, W.st_t, W.i?_int, W.b?_bl, List.length_cons, List.length_nil, Nat.zero_add, Nat.reduceAdd, Nat.reduceLT, ↓reduceIte, if_true, if_false, Bool.false_eq_true, Bool.false_and, Bool.and_false, Bool.true_or, Bool.or_true, Bool.true_and, Bool.and_true, Bool.false_or, Bool.or_false, e0, c_eqN, hd, h0, decide_true, g1]
      rw [h0] at u1 u2
      simp only [u1, u2, wn, s_for2, for_n, for_c, it_sq, own_get, s_app, LL, List.cons_append, List.nil_append, x_tuple, exB_n, exB_c, e_var, e_cst, e_gfn, e_tup, e_lst, e_bin, e_neg, e_cmp, e_chain, e_and, e_or, e_not, e_ife, e_ix, e_sl, e_call, e_callK, e_b1, e_b2, e_isi, e_bits, o_n, o_s, d_n, d_c, s_asg, s_own, s_frz, s_par2, slX_t, slX_v, slX_l, s_ret, s_retN, s_if, s_brk, s_cnt, s_exp, t_var, t_tup, t_n, t_c, ended_rt, ended_nx, get_0, get_s, put_0, put_s, Re.bind_ok, Re.st_ok, Re.of_some, SR.bind_nx, SR.bind_rt, W.st_v, W.st_t, W.i?_int, W.b?_bl, List.length_cons, List.length_nil, Nat.zero_add, Nat.reduceAdd, Nat.reduceLT, ↓reduceIte, if_true, if_false, Bool.false_eq_true, Bool.false_and, Bool.and_false, Bool.true_or, Bool.or_true, Bool.true_and, Bool.and_true, Bool.false_or, Bool.or_false]
    · have hb := hx0.resolve_left h0
      simp only [d44, wn, s_for2, for_n, for_c, it_sq, own_get, s_app, LL, List.cons_append, List.nil_append, x_tuple, exB_n, exB_c, e_var, e_cst, e_gfn, e_tup, e_lst, e_bin, e_neg, e_cmp, e_chain, e_and, e_or, e_not, e_ife, e_ix, e_sl, e_call, e_callK, e_b1, e_b2, e_isi, e_bits, o_n, o_s, d_n, d_c, s_asg, s_own, s_frz, s_par2, slX_t, slX_v, slX_l, s_ret, s_retN, s_if, s_brk, s_cnt, s_exp, t_var, t_tup, t_n, t_c, ended_rt, ended_nx, get_0, get_s, put_0, put_s, Re.bind_ok, Re.st_ok, Re.of_some, SR.bind_nx, SR.bind_rt, W.st_v, W.st_t, W.i?_int, W.b?_bl, List.length_cons, List.length_nil, Nat.zero_add, Nat.reduceAdd, Nat.reduceLT, ↓reduceIte, if_true, if_false, Bool.false_eq_true, Bool.false_and, Bool.and_false, Bool.true_or, Bool.or_true, Bool.true_and, Bool.and_true, Bool.false_or, Bool.or_false, e0, c_eqN, hd, h0, decide_false, g1, hb, Bool.not_false, u1, u2]
  · obtain ⟨h0, hb⟩ : x ≠ 0 ∧ bits (num x b).1 ≤ p := ⟨fun h => hx0 (.inl h), by
      by_cases h : bits (num x b).1 ≤ p
      · exact h
      · exact absurd (.inr h) hx0⟩
    have c1 := c_close_ends (n + 4) p x b T h0 hb
    have c2 := (c_steps_ends (n + 2) p x b T h0 hb hp2 hp (hx.mono (by omega)) hb1 hb2)
    have s1 := @num_sign1 x b
    have eN1 : D.tup [.int (num x b).1, .int ((num x b).2 - 1)] = N x (b - 1) := N_mv h0
    have eN2 : D.tup [.int (num x b).1, .int ((num x b).2 + 1)] = N x (b + 1) := N_mv h0
    -- over the base b - 1
    have f0 : N x b = N (2 * x) (b - 1) := by
      have := @N_up1 x (b - 1)
      rw [show b - 1 + 1 = b by omega] at this
      exact this
    have f2 : N x (b + 1) = N (4 * x) (b - 1) := by
      have := @N_up x (b - 1) 2
      rw [show b - 1 + ((2 : Nat) : Int) = b + 1 by omega] at this
      rw [this, show x * 2 ^ 2 = 4 * x by omega]
    have k0 : Sk 90000 x (b - 1) := ⟨by have := hx.bits; omega, by omega, by omega⟩
    have k1 : Sk 90000 (2 * x) (b - 1) := ⟨by rw [show 2 * x = x * 2 ^ 1 by omega]; exact Nat.le_trans (bits_shl hx.bits) (by omega), by omega, by omega⟩
    have k2 : Sk 90000 (4 * x) (b - 1) := ⟨by rw [show 4 * x = x * 2 ^ 2 by omega]; exact Nat.le_trans (bits_shl hx.bits) (by omega), by omega, by omega⟩
    have hc : ∀ u v : Int, (0 < u ∧ 0 < v ∨ u < 0 ∧ v < 0) → absI u ≤ 2 * absI v → absI v ≤ 2 * absI u → closeB u v = true := by
      intro u v hs h1 h2
      unfold closeB
      have : ¬ u * v ≤ 0 := by
        rcases hs with ⟨a1, a2⟩ | ⟨a1, a2⟩
        · have := Int.mul_pos a1 a2; omega
        · have := Int.mul_pos_of_neg_of_neg a1 a2; omega
      rw [if_neg this, decide_eq_true h1, decide_eq_true h2]
      rfl
    have sg : 0 < x ∨ x < 0 := by omega
    have q1 := c_are_close (n + 2) (2 * x) x (b - 1) T (k1.mono (by omega)) (k0.mono (by omega))
    have q2 := c_are_close (n + 2) x (2 * x) (b - 1) T (k0.mono (by omega)) (k1.mono (by omega))
    have q3 := c_are_close (n + 2) (2 * x) (4 * x) (b - 1) T (k1.mono (by omega)) (k2.mono (by omega))
    have q4 := c_are_close (n + 2) (4 * x) (2 * x) (b - 1) T (k2.mono (by omega)) (k1.mono (by omega))
    rw [hc (2 * x) x (by omega) (by unfold absI; split <;> split <;> omega) (by unfold absI; split <;> split <;> omega), ← f0] at q1
    rw [hc x (2 * x) (by omega) (by unfold absI; split <;> split <;> omega) (by unfold absI; split <;> split <;> omega), ← f0] at q2
    rw [hc (2 * x) (4 * x) (by omega) (by unfold absI; split <;> split <;> omega) (by unfold absI; split <;> split <;> omega), ← f0, ← f2] at q3
    rw [hc (4 * x) (2 * x) (by omega) (by unfold absI; split <;> split <;> omega) (by unfold absI; split <;> split <;> omega), ← f0, ← f2] at q4
    have hb1' : bits (1 : Int) = 1 := by decide
    have f3 : (1 : Int) * 2 ^ ((p : Nat) : Int).toNat = 2 ^ p := by rw [Int.one_mul]; rfl
    have i1 := l_same (n + 6) (.tup [N x (b - 1), N x (b + 1)]) T (pI_2 pI_N pI_N)
    have i2 := l_same (n + 6) (.tup [N x (b + 1), N x (b - 1)]) T (pI_2 pI_N pI_N)
    have i3 := l_same (n + 6) (.tup [.int (2 ^ p), .int (2 ^ p)]) T (pI_2 pI_int pI_int)
    have zt : ∀ {T : Sto} {k : Bool}, cmpW .IsNot T (.v (.bl k)) (.v (.bl true)) = some (!(k == true)) := rfl
    have hsh : opW .LShift T (.v (.int 1)) (.v (.int p)) = some (.v (.int (2 ^ p))) := by rw [i_shl (by omega) (by omega), f3]
    rw [run_def (fd := d44) (η := [.val (.int p), .val (N x b), .no, .no, .no, .no]) rfl rfl rfl]
    by_cases g : 0 < x
    · rw [if_pos g] at c1
      simp only [d44, wn, s_for2, for_n, for_c, it_sq, own_get, s_app, LL, List.cons_append, List.nil_append, x_tuple, exB_n, exB_c, e_var, e_cst, e_gfn, e_tup, e_lst, e_bin, e_neg, e_cmp, e_chain, e_and, e_or, e_not, e_ife, e_ix, e_sl, e_call, e_callK, e_b1, e_b2, e_isi, e_bits, o_n, o_s, d_n, d_c, s_asg, s_own, s_frz, s_par2, slX_t, slX_v, slX_l, s_ret, s_retN, s_if, s_brk, s_cnt, s_exp, t_var, t_tup, t_n, t_c, ended_rt, ended_nx, get_0, get_s, put_0, put_s, Re.bind_ok, Re.st_ok, Re.of_some, SR.bind_nx, SR.bind_rt, W.st_v, W.st_t, W.i?_int, W.b?_bl, List.length_cons, List.length_nil, Nat.zero_add, Nat.reduceAdd, Nat.reduceLT, ↓reduceIte, if_true, if_false, Bool.false_eq_true, Bool.false_and, Bool.and_false, Bool.true_or, Bool.or_true, Bool.true_and, Bool.and_true, Bool.false_or, Bool.or_false, e0, c_eqN, hd, h0, decide_false, decide_true, g1, hb, Bool.not_true, x_pr0, x_pr1, i_sub, i_add, eN1, eN2, c_gt, s1, g, c1, pm_01, i1, q1, q2, q3, q4, zt, beq_self_eq_true, x_t20, x_t21, c2.1, c2.2, hsh, i3]
    · rw [if_neg g] at c1
      simp only [d44, wn, s_for2, for_n, for_c, it_sq, own_get, s_app, LL, List.cons_append, List.nil_append, x_tuple, exB_n, exB_c, e_var, e_cst, e_gfn, e_tup, e_lst, e_bin, e_neg, e_cmp, e_chain, e_and, e_or, e_not, e_ife, e_ix, e_sl, e_call, e_callK, e_b1, e_b2, e_isi, e_bits, o_n, o_s, d_n, d_c, s_asg, s_own, s_frz, s_par2, slX_t, slX_v, slX_l, s_ret, s_retN, s_if, s_brk, s_cnt, s_exp, t_var, t_tup, t_n, t_c, ended_rt, ended_nx, get_0, get_s, put_0, put_s, Re.bind_ok, Re.st_ok, Re.of_some, SR.bind_nx, SR.bind_rt, W.st_v, W.st_t, W.i?_int, W.b?_bl, List.length_cons, List.length_nil, Nat.zero_add, Nat.reduceAdd, Nat.reduceLT, ↓reduceIte, if_true, if_false, Bool.false_eq_true, Bool.false_and, Bool.and_false, Bool.true_or, Bool.or_true, Bool.true_and, Bool.and_true, Bool.false_or, Bool.or_false, e0, c_eqN, hd, h0, decide_false, decide_true, g1, hb, Bool.not_true, x_pr0, x_pr1, i_sub, i_add, eN1, eN2, c_gt, s1, g, c1, pm_01, i2, q1, q2, q3, q4, zt, beq_self_eq_true, x_t20, x_t21, c2.1, c2.2, hsh, i3]
theorem l_widths (n : Nat) (x b z at_ k : Int) (T : Sto) (hx : Sk 1000 x b) (hb : -5000 ≤ b) (hb2 : b ≤ 5000) (hz0 : 0 ≤ z) (hz : bits z ≤ 1000) (ha : -3000 ≤ at_) (ha2 : at_ ≤ 3000) (hk : -500 ≤ k) (hk2 : k ≤ 500) :
    run P (n + 9) 45 [N x b, .int z, .int at_, .int k] T = .ok (.bl true) T := by
  suffices h : (run P (n + 9) 45 [N x b, .int z, .int at_, .int k] T).wp fun d T' => d = .bl true ∧ T' = T by
    obtain ⟨d, T', e, rfl, rfl⟩ := wp_ex h
    exact e
  have r62 : (2 : Int) ^ 62 = 4611686018427387904 := by decide
  have hb1' : bits (1 : Int) = 1 := by decide
  refine run_wp (fd := d45) (η := [.val (N x b), .val (.int z), .val (.int at_), .val (.int k), .no, .no, .no, .no]) rfl rfl rfl ?_
  simp -implicitDefEqProofs (disch := first | omega | assumption) only [d45, mi_rng, if62, wp_ok, wp_bind, wp_ended, wps_nx, wps_rt, wps_bk, wps_ct, wps_st, wps_bind, wn, own_get, LL, List.cons_append, List.nil_append, x_tuple, slX_t, slX_v, slX_l, t_var, t_tup, t_n, t_c, ended_rt, ended_nx, get_0, get_s, put_0, put_s, Re.bind_ok, Re.st_ok, Re.of_some, SR.bind_nx, SR.bind_rt, W.st_v, W.st_t, W.i?_int, W.b?_bl, List.length_cons, List.length_nil, Nat.zero_add, Nat.reduceAdd, Nat.reduceLT, ↓reduceIte, if_true, if_false, Bool.false_eq_true, Bool.false_and, Bool.and_false, Bool.true_or, Bool.or_true, Bool.true_and, Bool.and_true, Bool.false_or, Bool.or_false, me_var, me_cst, me_gfn, me_tup, me_lst, me_bin, me_neg, me_cmp, me_chain, me_and, me_or, me_not, me_ife, me_ix, me_sl, me_call, me_callK, me_b1, me_b2, me_isi, me_bits, mo_n, mo_s, md_n, md_c, ms_asg, ms_own, ms_frz, ms_ret, ms_retN, ms_if, ms_whl, ms_brk, ms_cnt, ms_exp, ms_app, ms_setL, mexB_n, mexB_c, ms_for2, mit_sq, mit_rvd, mi_rng, mi_rng0, ms_par2]
  refine wpm_forI (fun d => ∃ i : Nat, d = .int i ∧ 2 ≤ i ∧ i < 25) (fun η T' => T' = T ∧ ∃ s4 s5 s6 s7, η = [.val (N x b), .val (.int z), .val (.int at_), .val (.int k), s4, s5, s6, s7]) (fun d m => by
    obtain ⟨i, rfl, h1, h2⟩ := rng_mem m
    exact ⟨i.toNat, by congr 1; omega, by omega, by omega⟩) ⟨rfl, _, _, _, _, rfl⟩ ?_ ?_
  · rintro _ η T ⟨p, rfl, hp1, hp2⟩ ⟨rfl, s4, s5, s6, s7, rfl⟩
    refine ⟨_, rfl, ?_⟩
    simp -implicitDefEqProofs (disch := first | omega | assumption) only [i_sub, wp_ok, wp_bind, wp_ended, wps_nx, wps_rt, wps_bk, wps_ct, wps_st, wps_bind, wn, own_get, LL, List.cons_append, List.nil_append, x_tuple, slX_t, slX_v, slX_l, t_var, t_tup, t_n, t_c, ended_rt, ended_nx, get_0, get_s, put_0, put_s, Re.bind_ok, Re.st_ok, Re.of_some, SR.bind_nx, SR.bind_rt, W.st_v, W.st_t, W.i?_int, W.b?_bl, List.length_cons, List.length_nil, Nat.zero_add, Nat.reduceAdd, Nat.reduceLT, ↓reduceIte, if_true, if_false, Bool.false_eq_true, Bool.false_and, Bool.and_false, Bool.true_or, Bool.or_true, Bool.true_and, Bool.and_true, Bool.false_or, Bool.or_false, me_var, me_cst, me_gfn, me_tup, me_lst, me_bin, me_neg, me_cmp, me_chain, me_and, me_or, me_not, me_ife, me_ix, me_sl, me_call, me_callK, me_b1, me_b2, me_isi, me_bits, mo_n, mo_s, md_n, md_c, ms_asg, ms_own, ms_frz, ms_ret, ms_retN, ms_if, ms_whl, ms_brk, ms_cnt, ms_exp, ms_app, ms_setL, mexB_n, mexB_c, ms_for2, mit_sq, mit_rvd, mi_rng, mi_rng0, ms_par2]
    refine wpm_forI (fun d => ∃ i : Int, d = .int i ∧ 0 ≤ i ∧ i ≤ 25) (fun η T' => T' = T ∧ ∃ s5, η = [.val (N x b), .val (.int z), .val (.int at_), .val (.int k), .val (.int p), s5, s6, s7]) (fun d m => by
      simp only [List.mem_cons, List.not_mem_nil, or_false] at m
      rcases m with rfl | rfl
      · exact ⟨_, rfl, by omega, by omega⟩
      · exact ⟨_, rfl, by omega, by omega⟩) ⟨rfl, _, rfl⟩ ?_ ?_
    · rintro _ η _ ⟨i, rfl, hi0, hi1⟩ ⟨rfl, s5, rfl⟩
      refine ⟨_, rfl, ?_⟩
      -- an odd number, its exponent
      generalize hu : z / 2 ^ i.toNat + 1 - z / 2 ^ i.toNat % 2 = u
      have hub : bits u ≤ 1001 := by
        have hW := pow_pos2 i.toNat
        have h1 : 0 ≤ z / 2 ^ i.toNat := Int.ediv_nonneg hz0 (by omega)
        have h2 : z / 2 ^ i.toNat ≤ z := Int.ediv_le_self _ hz0
        have h3 := bits_le.mp hz
        have h4 : ((2 ^ 1000 : Nat) : Int) = (2 : Int) ^ 1000 := pow_cast
        have h5 : (2 : Int) ^ 1001 = 2 * 2 ^ 1000 := pow_dbl (by omega)
        have h6 := pow_pos2 1000
        exact small_bits (by omega) (by omega)
      have huo : u % 2 = 1 := by omega
      have eu : D.tup [.int u, .int at_] = N u at_ := (N_odd huo).symm
      -- one base for both
      have toB : ∀ (v c : Int), bits v ≤ 1001 → -5000 ≤ c → c ≤ 5000 → ∃ v', N v c = N v' (-5000) ∧ Sk 20000 v' (-5000) := by
        intro v c h1 h2 h3
        refine ⟨v * 2 ^ (c + 5000).toNat, ?_, ⟨Nat.le_trans (bits_shl h1) (by omega), by omega, by omega⟩⟩
        have := @N_up v (-5000) (c + 5000).toNat
        rw [← this]
        congr 1
        congr 1
        omega
      obtain ⟨x', ex, kx⟩ := toB x b (by have := hx.bits; omega) hb hb2
      obtain ⟨u', eu', ku⟩ := toB u at_ hub (by omega) (by omega)
      rw [ex]
      have w1 : ∀ T, run P (n + 8) 27 [N x' (-5000), N u' (-5000)] T = .ok (N (x' + u') (-5000)) T := fun T => l_sum (n + 6) x' u' (-5000) T (kx.sm (by omega)) (ku.sm (by omega))
      have w2 : ∀ T, run P (n + 8) 42 [.int p, N (x' + u') (-5000), N x' (-5000)] T = .ok (.bl true) T := fun T => l_fits_right (n + 1) p (x' + u') x' (-5000) T ((kx.add ku).mono (by omega)) (kx.mono (by omega))
      have hsr : ∀ T, opW .RShift T (.v (.int z)) (.v (.int i)) = some (.v (.int (z / 2 ^ i.toNat))) := fun T => i_shr hi0
      simp -implicitDefEqProofs (disch := first | omega | assumption) only [hsr, i_or1, hu, eu, eu', w1, w2, Bool.not_true, wp_ok, wp_bind, wp_ended, wps_nx, wps_rt, wps_bk, wps_ct, wps_st, wps_bind, wn, own_get, LL, List.cons_append, List.nil_append, x_tuple, slX_t, slX_v, slX_l, t_var, t_tup, t_n, t_c, ended_rt, ended_nx, get_0, get_s, put_0, put_s, Re.bind_ok, Re.st_ok, Re.of_some, SR.bind_nx, SR.bind_rt, W.st_v, W.st_t, W.i?_int, W.b?_bl, List.length_cons, List.length_nil, Nat.zero_add, Nat.reduceAdd, Nat.reduceLT, ↓reduceIte, if_true, if_false, Bool.false_eq_true, Bool.false_and, Bool.and_false, Bool.true_or, Bool.or_true, Bool.true_and, Bool.and_true, Bool.false_or, Bool.or_false, me_var, me_cst, me_gfn, me_tup, me_lst, me_bin, me_neg, me_cmp, me_chain, me_and, me_or, me_not, me_ife, me_ix, me_sl, me_call, me_callK, me_b1, me_b2, me_isi, me_bits, mo_n, mo_s, md_n, md_c, ms_asg, ms_own, ms_frz, ms_ret, ms_retN, ms_if, ms_whl, ms_brk, ms_cnt, ms_exp, ms_app, ms_setL, mexB_n, mexB_c, ms_for2, mit_sq, mit_rvd, mi_rng, mi_rng0, ms_par2]
      exact ⟨rfl, _, rfl⟩
    · rintro η _ ⟨rfl, s5, rfl⟩
      have f2 : (1 : Int) * 2 ^ ((p : Nat) : Int).toNat = 2 ^ p := by rw [Int.one_mul]; rfl
      have hP := pow_pos2 p
      have eP := pow_dbl (k := p) (by omega)
      have eP1 := pow_dbl (k := p + 1) (by omega)
      rw [Nat.add_sub_cancel] at eP1
      have e1 : D.tup [.int 1, .int (k + 2)] = N 1 (k + 2) := (N_odd (by decide)).symm
      have e2 : D.tup [.int (2 ^ p - 1), .int (k + 1 - p)] = N (2 ^ p - 1) (k + 1 - p) := (N_odd (by omega)).symm
      have e3 : N 1 (k + 2) = N (2 ^ (p + 1)) (k + 1 - p) := by
        have := @N_up 1 (k + 1 - p) (p + 1)
        rw [Int.one_mul, show k + 1 - (p : Int) + ((p + 1 : Nat) : Int) = k + 2 by omega] at this
        exact this
      have pb : bits (2 ^ p - 1 : Int) ≤ 30 := Nat.le_trans (small_bits (p := p) (by omega) (by omega)) (by omega)
      have pb2 : bits (2 ^ (p + 1) : Int) ≤ 30 := by rw [bits_two_pow]; omega
      have k1 : Sk 90000 (2 ^ (p + 1)) (k + 1 - p) := ⟨by omega, by omega, by omega⟩
      have k2 : Sk 90000 (2 ^ p - 1) (k + 1 - p) := ⟨by omega, by omega, by omega⟩
      have a1 : ∀ T, run P (n + 8) 13 [.int p, .int k] T = .ok (.tup [N (2 ^ (p + 1)) (k + 1 - p), N (2 ^ p - 1) (k + 1 - p)]) T := fun T => by rw [← e3]; exact c_apart_pair (n + 6) p k T (by omega)
      have hodd : ∀ s : Int, s % 2 = 1 → bits (num s (k + 1 - p)).1 = bits s := fun s hs => by rw [num_odd1 hs]
      have hbig : ¬ bits (2 ^ p + 1 : Int) ≤ p := by
        have h1 : p < bits (2 ^ p + 1 : Int) := bits_lt.mpr (by have h4 : ((2 ^ p : Nat) : Int) = (2 : Int) ^ p := pow_cast; omega)
        omega
      have a2 : ∀ T, run P (n + 8) 10 [.int p, N (2 ^ (p + 1)) (k + 1 - p), N (2 ^ p - 1) (k + 1 - p)] T = .ok (.bl false) T := fun T => by
        have := c_difference_fits (n + 4) p (2 ^ (p + 1)) (2 ^ p - 1) (k + 1 - p) T (k1.sm (by omega)) (k2.sm (by omega))
        rw [show (2 : Int) ^ (p + 1) - (2 ^ p - 1) = 2 ^ p + 1 by omega, hodd _ (by omega), decide_eq_false hbig] at this
        exact this
      have a3 : ∀ T, run P (n + 8) 10 [.int p, N (2 ^ p - 1) (k + 1 - p), N (2 ^ (p + 1)) (k + 1 - p)] T = .ok (.bl false) T := fun T => by
        have := c_difference_fits (n + 4) p (2 ^ p - 1) (2 ^ (p + 1)) (k + 1 - p) T (k2.sm (by omega)) (k1.sm (by omega))
        rw [show (2 : Int) ^ p - 1 - 2 ^ (p + 1) = -(2 ^ p + 1) by omega, hodd _ (by omega), bits_neg, decide_eq_false hbig] at this
        exact this
      have hcl : closeB (2 ^ (p + 1)) (2 ^ p - 1) = false := by
        unfold closeB
        have h1 : 0 < (2 : Int) ^ (p + 1) * (2 ^ p - 1) := Int.mul_pos (by omega) (by omega)
        rw [if_neg (by omega), decide_eq_false (by unfold absI; split <;> split <;> omega)]
        rfl
      have a4 : ∀ T, run P (n + 8) 9 [N (2 ^ (p + 1)) (k + 1 - p), N (2 ^ p - 1) (k + 1 - p)] T = .ok (.bl false) T := fun T => by
        have := c_are_close (n + 3) (2 ^ (p + 1)) (2 ^ p - 1) (k + 1 - p) T (k1.mono (by omega)) (k2.mono (by omega))
        rw [hcl] at this
        exact this
      have a5 : ∀ T, run P (n + 8) 9 [N (2 ^ p - 1) (k + 1 - p), N (2 ^ (p + 1)) (k + 1 - p)] T = .ok (.bl false) T := fun T => by
        have := c_are_close (n + 3) (2 ^ p - 1) (2 ^ (p + 1)) (k + 1 - p) T (k2.mono (by omega)) (k1.mono (by omega))
        rw [closeB_comm, hcl] at this
        exact this
      have i1 : ∀ T, run P (n + 8) 30 [.tup [N (2 ^ (p + 1)) (k + 1 - p), N (2 ^ p - 1) (k + 1 - p)], .tup [N (2 ^ (p + 1)) (k + 1 - p), N (2 ^ p - 1) (k + 1 - p)]] T = .ok (.bl true) T := fun T => l_same (n + 7) _ T (pI_2 pI_N pI_N)
      have i2 : ∀ T, run P (n + 8) 30 [.tup [.bl false, .bl false], .tup [.bl false, .bl false]] T = .ok (.bl true) T := fun T => l_same (n + 7) _ T (pI_2 pI_bl pI_bl)
      have hsh : ∀ T, opW .LShift T (.v (.int 1)) (.v (.int p)) = some (.v (.int (2 ^ p))) := fun T => by rw [i_shl (by omega) (by omega), f2]
      simp -implicitDefEqProofs (disch := first | omega | assumption) only [i_add, i_sub, hsh, e1, e2, e3, a1, a2, a3, a4, a5, i1, i2, pm_01, Bool.not_true, wp_ok, wp_bind, wp_ended, wps_nx, wps_rt, wps_bk, wps_ct, wps_st, wps_bind, wn, own_get, LL, List.cons_append, List.nil_append, x_tuple, slX_t, slX_v, slX_l, t_var, t_tup, t_n, t_c, ended_rt, ended_nx, get_0, get_s, put_0, put_s, Re.bind_ok, Re.st_ok, Re.of_some, SR.bind_nx, SR.bind_rt, W.st_v, W.st_t, W.i?_int, W.b?_bl, List.length_cons, List.length_nil, Nat.zero_add, Nat.reduceAdd, Nat.reduceLT, ↓reduceIte, if_true, if_false, Bool.false_eq_true, Bool.false_and, Bool.and_false, Bool.true_or, Bool.or_true, Bool.true_and, Bool.and_true, Bool.false_or, Bool.or_false, me_var, me_cst, me_gfn, me_tup, me_lst, me_bin, me_neg, me_cmp, me_chain, me_and, me_or, me_not, me_ife, me_ix, me_sl, me_call, me_callK, me_b1, me_b2, me_isi, me_bits, mo_n, mo_s, md_n, md_c, ms_asg, ms_own, ms_frz, ms_ret, ms_retN, ms_if, ms_whl, ms_brk, ms_cnt, ms_exp, ms_app, ms_setL, mexB_n, mexB_c, ms_for2, mit_sq, mit_rvd, mi_rng, mi_rng0, ms_par2]
      exact ⟨rfl, _, _, _, _, rfl⟩
  · rintro η _ ⟨rfl, s4, s5, s6, s7, rfl⟩
    simp -implicitDefEqProofs (disch := first | omega | assumption) only [wp_ok, wp_bind, wp_ended, wps_nx, wps_rt, wps_bk, wps_ct, wps_st, wps_bind, wn, own_get, LL, List.cons_append, List.nil_append, x_tuple, slX_t, slX_v, slX_l, t_var, t_tup, t_n, t_c, ended_rt, ended_nx, get_0, get_s, put_0, put_s, Re.bind_ok, Re.st_ok, Re.of_some, SR.bind_nx, SR.bind_rt, W.st_v, W.st_t, W.i?_int, W.b?_bl, List.length_cons, List.length_nil, Nat.zero_add, Nat.reduceAdd, Nat.reduceLT, ↓reduceIte, if_true, if_false, Bool.false_eq_true, Bool.false_and, Bool.and_false, Bool.true_or, Bool.or_true, Bool.true_and, Bool.and_true, Bool.false_or, Bool.or_false, me_var, me_cst, me_gfn, me_tup, me_lst, me_bin, me_neg, me_cmp, me_chain, me_and, me_or, me_not, me_ife, me_ix, me_sl, me_call, me_callK, me_b1, me_b2, me_isi, me_bits, mo_n, mo_s, md_n, md_c, ms_asg, ms_own, ms_frz, ms_ret, ms_retN, ms_if, ms_whl, ms_brk, ms_cnt, ms_exp, ms_app, ms_setL, mexB_n, mexB_c, ms_for2, mit_sq, mit_rvd, mi_rng, mi_rng0, ms_par2]
    exact ⟨trivial, rfl⟩
theorem l_examples (n : Nat) (T : Sto) : run P (n + 12) 46 [] T = .ok (.bl true) T := by kernel_rfl
end K06
namespace K06
open Ev PySem
def ctPair : Ct := ⟨43, 9, fun as => match as with
  | [.int lo hi _, x, y] => if 1 ≤ lo ∧ hi ≤ 4000 ∧ numOK x = true ∧ numOK y = true then some (.bl (some true)) else none
  | _ => none⟩
theorem ctPair_ok {I : Sto → Prop} : ctPair.ok P I := by
  intro n hn as a ds T e h hT
  obtain ⟨m, rfl⟩ := ct_lv hn
  simp only [ctPair] at e
  split at e <;> try (cases e; done)
  split at e <;> simp only [Option.some.injEq, reduceCtorEq] at e
  rename_i q
  subst e
  obtain ⟨d1, d2, d3, rfl, h1, h2, h3⟩ := oks_3 h
  obtain ⟨v, rfl, v0, v1, _⟩ := aok_int.mp h1
  obtain ⟨x, rfl, kx⟩ := numOK_ok q.2.2.1 h2
  obtain ⟨y, rfl, ky⟩ := numOK_ok q.2.2.2 h3
  obtain ⟨p, rfl⟩ : ∃ p : Nat, v = p := ⟨v.toNat, by omega⟩
  exact wp_of (l_pair_right m p x y _ T (by omega) (by omega) (kx.mono (by omega)) (ky.mono (by omega))) ⟨aok_bl.mpr ⟨_, rfl, .inr rfl⟩, hT⟩
def ctEnds : Ct := ⟨44, 8, fun as => match as with
  | [.int lo hi _, x] => if 1 ≤ lo ∧ hi ≤ 4000 ∧ numOK x = true then some (.bl (some true)) else none
  | _ => none⟩
theorem ctEnds_ok {I : Sto → Prop} : ctEnds.ok P I := by
  intro n hn as a ds T e h hT
  obtain ⟨m, rfl⟩ := ct_lv hn
  simp only [ctEnds] at e
  split at e <;> try (cases e; done)
  split at e <;> simp only [Option.some.injEq, reduceCtorEq] at e
  rename_i q
  subst e
  obtain ⟨d1, d2, rfl, h1, h2⟩ := oks_2 h
  obtain ⟨v, rfl, v0, v1, _⟩ := aok_int.mp h1
  obtain ⟨x, rfl, kx⟩ := numOK_ok q.2.2 h2
  obtain ⟨p, rfl⟩ : ∃ p : Nat, v = p := ⟨v.toNat, by omega⟩
  exact wp_of (l_ends_right m p x _ T (by omega) (by omega) (kx.mono (by omega)) (by omega) (by omega)) ⟨aok_bl.mpr ⟨_, rfl, .inr rfl⟩, hT⟩
def ctWidths : Ct := ⟨45, 9, fun as => match as with
  | [x, .int a b _, .int c d _, .int e f _] => (match x.num? with
    | some (k, l, h, _) => if k ≤ 200 ∧ -300 ≤ l ∧ h ≤ 400 ∧ 0 ≤ a ∧ bitsR a b ≤ 1000 ∧ -3000 ≤ c ∧ d ≤ 3000 ∧ -500 ≤ e ∧ f ≤ 500 then some (.bl (some true)) else none
    | none => none)
  | _ => none⟩
theorem ctWidths_ok {I : Sto → Prop} : ctWidths.ok P I := by
  intro n hn as a ds T e h hT
  obtain ⟨m, rfl⟩ := ct_lv hn
  simp only [ctWidths] at e
  split at e <;> try (cases e; done)
  split at e <;> try (cases e; done)
  rename_i q0
  split at e <;> simp only [Option.some.injEq, reduceCtorEq] at e
  rename_i q
  subst e
  obtain ⟨d1, d2, d3, d4, rfl, h1, h2, h3, h4⟩ := oks_4 h
  obtain ⟨x, b, rfl, x1, x2, x3, _⟩ := aok_num.mp (num?_ok q0 h1)
  obtain ⟨u, rfl, u0, u1, _⟩ := aok_int.mp h2
  obtain ⟨v, rfl, v0, v1, _⟩ := aok_int.mp h3
  obtain ⟨w, rfl, w0, w1, _⟩ := aok_int.mp h4
  have := bits_range u0 u1
  exact wp_of (l_widths m x b u v w T ⟨by omega, by omega, by omega⟩ (by omega) (by omega) (by omega) (by omega) (by omega) (by omega) (by omega) (by omega)) ⟨aok_bl.mpr ⟨_, rfl, .inr rfl⟩, hT⟩
def ctEx : Ct := ⟨46, 12, fun as => match as with
  | [] => some (.bl (some true))
  | _ => none⟩
theorem ctEx_ok {I : Sto → Prop} : ctEx.ok P I := by
  intro n hn as a ds T e h hT
  obtain ⟨m, rfl⟩ := ct_lv hn
  simp only [ctEx] at e
  split at e <;> simp only [Option.some.injEq, reduceCtorEq] at e
  subst e
  have := oks_0 h
  subst this
  exact wp_of (l_examples m T) ⟨aok_bl.mpr ⟨_, rfl, .inr rfl⟩, hT⟩
def cts : List Ct := [ctDraw, ctBits, ctFull, ctWidth, ctNum, ctSum, ctPair, ctEnds, ctWidths, ctEx]
def env0 : AEn := [.any, .val .bag, .no, .no, .no, .no, .no, .no, .no, .no, .no, .no, .no, .no, .no]
end K06
namespace K06
open Ev PySem
def numB : A := .num 3000 (-3000) 3000 false
def env1 : AEn := [.any, .val .bag, .any, .any, .any, .own (.lst (.tup [.int 2 24 false, numB]) 0 100), .any, .any, .own (.lst (.tup [.int 2 24 false, numB, numB]) 0 100), .val (.lst (.tup [numB, numB]) 0 100), .any, .any, .any, .any, .any]
theorem an1 : toB P cts 59 ((d47.body.drop 1).take 11) env0 env1 = true := by kernel_rfl
theorem an2 : ansB P cts 59 (d47.body.drop 13) env1 (.bl (some true)) = true := by kernel_rfl
theorem cts_ok : ∀ c, c ∈ cts → c.ok P isB := by
  intro c m
  simp only [cts, List.mem_cons, List.not_mem_nil, or_false] at m
  rcases m with rfl | rfl | rfl | rfl | rfl | rfl | rfl | rfl | rfl | rfl
  · exact ctDraw_ok
  · exact ctBits_ok
  · exact ctFull_ok
  · exact ctWidth_ok
  · exact ctNum_ok
  · exact ctSum_ok
  · exact ctPair_ok
  · exact ctEnds_ok
  · exact ctWidths_ok
  · exact ctEx_ok
theorem main_w (ns : List Int) (hn : ns.length ≤ 63) : (run P 60 47 [.ro (ns.map .int)] []).wp fun d _ => d = .bl true := by
  refine run_wp (fd := d47) (η := [.val (.ro (ns.map .int)), .no, .no, .no, .no, .no, .no, .no, .no, .no, .no, .no, .no, .no, .no]) rfl rfl rfl ?_
  have eb : d47.body = d47.body.take 1 ++ ((d47.body.drop 1).take 11 ++ ((d47.body.drop 12).take 1 ++ d47.body.drop 13)) := rfl
  refine wpm_cut 1 (fun η T => env0.ok η ∧ isB T) ?_ ?_
  · simp -implicitDefEqProofs (disch := first | omega | assumption) only [d47, List.take_succ_cons, List.take_zero, wp_ok, wp_bind, wp_ended, wps_nx, wps_rt, wps_bk, wps_ct, wps_st, wps_bind, wn, own_get, LL, List.cons_append, List.nil_append, x_tuple, slX_t, slX_v, slX_l, t_var, t_tup, t_n, t_c, ended_rt, ended_nx, get_0, get_s, put_0, put_s, Re.bind_ok, Re.st_ok, Re.of_some, SR.bind_nx, SR.bind_rt, W.st_v, W.st_t, W.i?_int, W.b?_bl, List.length_cons, List.length_nil, Nat.zero_add, Nat.reduceAdd, Nat.reduceLT, ↓reduceIte, if_true, if_false, Bool.false_eq_true, Bool.false_and, Bool.and_false, Bool.true_or, Bool.or_true, Bool.true_and, Bool.and_true, Bool.false_or, Bool.or_false, me_var, me_cst, me_gfn, me_tup, me_lst, me_bin, me_neg, me_cmp, me_chain, me_and, me_or, me_not, me_ife, me_ix, me_sl, me_call, me_callK, me_b1, me_b2, me_isi, me_bits, mo_n, mo_s, md_n, md_c, ms_asg, ms_own, ms_frz, ms_ret, ms_retN, ms_if, ms_whl, ms_brk, ms_cnt, ms_exp, ms_app, ms_setL, mexB_n, mexB_c, ms_for2, mit_sq, mit_rvd, mi_rng, mi_rng0, ms_par2]
    refine wpm_step (w_bag 58 ns hn) ?_
    rintro _ T ⟨rfl, hT⟩
    simp -implicitDefEqProofs (disch := first | omega | assumption) only [wp_ok, wp_bind, wp_ended, wps_nx, wps_rt, wps_bk, wps_ct, wps_st, wps_bind, wn, own_get, LL, List.cons_append, List.nil_append, x_tuple, slX_t, slX_v, slX_l, t_var, t_tup, t_n, t_c, ended_rt, ended_nx, get_0, get_s, put_0, put_s, Re.bind_ok, Re.st_ok, Re.of_some, SR.bind_nx, SR.bind_rt, W.st_v, W.st_t, W.i?_int, W.b?_bl, List.length_cons, List.length_nil, Nat.zero_add, Nat.reduceAdd, Nat.reduceLT, ↓reduceIte, if_true, if_false, Bool.false_eq_true, Bool.false_and, Bool.and_false, Bool.true_or, Bool.or_true, Bool.true_and, Bool.and_true, Bool.false_or, Bool.or_false, me_var, me_cst, me_gfn, me_tup, me_lst, me_bin, me_neg, me_cmp, me_chain, me_and, me_or, me_not, me_ife, me_ix, me_sl, me_call, me_callK, me_b1, me_b2, me_isi, me_bits, mo_n, mo_s, md_n, md_c, ms_asg, ms_own, ms_frz, ms_ret, ms_retN, ms_if, ms_whl, ms_brk, ms_cnt, ms_exp, ms_app, ms_setL, mexB_n, mexB_c, ms_for2, mit_sq, mit_rvd, mi_rng, mi_rng0, ms_par2]
    refine ⟨?_, hT⟩
    exact ⟨_, _, rfl, trivial, _, _, rfl, ⟨_, rfl, by rw [A.ok]⟩, _, _, rfl, rfl, _, _, rfl, rfl, _, _, rfl, rfl, _, _, rfl, rfl, _, _, rfl, rfl, _, _, rfl, rfl, _, _, rfl, rfl, _, _, rfl, rfl, _, _, rfl, rfl, _, _, rfl, rfl, _, _, rfl, rfl, _, _, rfl, rfl, _, _, rfl, rfl, rfl⟩
  intro η T ⟨hη, hT⟩
  refine wps_cut 11 (fun η T => env1.ok η ∧ isB T) (toB_ok cts_ok an1 hη hT fun η T h hT => ⟨h, hT⟩) ?_
  intro η T ⟨hη, hT⟩
  refine wpm_cut 1 (fun η T => env1.ok η ∧ isB T) ?_ ?_
  · obtain ⟨ds, hds, hall⟩ : ∃ ds, η.get 9 = .val (.lst ds) ∧ ∀ x, x ∈ ds → (A.tup [numB, numB]).ok x := by
      have hg := aen_get (i := 9) hη
      obtain ⟨d, h1, h2⟩ := hg
      rw [A.ok] at h2
      obtain ⟨ds, rfl, _, _, h3⟩ := h2
      exact ⟨ds, h1, h3⟩
    have hsl : exB (run P 59) ((d47.body.drop 1).drop 11 |>.take 1) η (At T) = forL (.tup [.var 13, .var 14]) (exB (run P 59) [.ife (.not (.call 30 [(.tup [(.call 9 [(.var 13), (.var 14)]), (.call 9 [(.var 14), (.var 13)])]), (.bin .Mult (.tup [(.call 40 [(.var 13), (.var 14)])]) (.cst (.int 2)))])) [.ret (.cst (.bl false))] []]) ds η (At T) := by
      show exB (run P 59) [.for _ _ _] η (At T) = _
      rw [exB_c, s_for2, it_sq, e_var, hds]
      simp only [Re.bind_ok, W.st_v, Re.st_ok]
      have : ∀ r : SR, r.bind (exB (run P 59) []) = r := fun r => by cases r <;> first | rfl | (rw [SR.bind_nx, exB_n])
      rw [this]
    show SR.wp (exB (run P 59) ((d47.body.drop 1).drop 11 |>.take 1) η (At T)) _ _ _ _
    rw [hsl]
    refine wpm_forI (fun x => (A.tup [numB, numB]).ok x) (fun η T => env1.ok η ∧ isB T) hall ⟨hη, hT⟩ ?_ fun η T h => h
    intro x η T hx ⟨hη, hT⟩
    rw [A.ok] at hx
    obtain ⟨es, rfl, hx⟩ := hx
    obtain ⟨d1, d2, rfl, h1, h2⟩ := oks_2 hx
    obtain ⟨η', e1, e2⟩ := aAsg_ok (.tup [.var 13, .var 14]) (a := .tup [numB, numB]) (as := env1) rfl (by rw [A.ok]; exact ⟨_, rfl, oks_cons h1 (oks_cons h2 oks_nil)⟩) hη
    refine ⟨η', e1, ?_⟩
    have hl := aen_len hη
    have g13 : η'.get 13 = .val d1 ∧ η'.get 14 = .val d2 := by
      rw [asgT] at e1
      obtain ⟨a0, η1, rfl, _, q0⟩ := hη
      obtain ⟨a1, η2, rfl, _, q1⟩ := q0
      obtain ⟨a2, η3, rfl, _, q2⟩ := q1
      obtain ⟨a3, η4, rfl, _, q3⟩ := q2
      obtain ⟨a4, η5, rfl, _, q4⟩ := q3
      obtain ⟨a5, η6, rfl, _, q5⟩ := q4
      obtain ⟨a6, η7, rfl, _, q6⟩ := q5
      obtain ⟨a7, η8, rfl, _, q7⟩ := q6
      obtain ⟨a8, η9, rfl, _, q8⟩ := q7
      obtain ⟨a9, η10, rfl, _, q9⟩ := q8
      obtain ⟨a10, η11, rfl, _, q10⟩ := q9
      obtain ⟨a11, η12, rfl, _, q11⟩ := q10
      obtain ⟨a12, η13, rfl, _, q12⟩ := q11
      obtain ⟨a13, η14, rfl, _, q13⟩ := q12
      obtain ⟨a14, η15, rfl, _, q14⟩ := q13
      rw [AEn.ok] at q14
      subst q14
      cases e1
      exact ⟨rfl, rfl⟩
    obtain ⟨y, rfl, ky⟩ := numOK_ok (a := numB) (by decide) h1
    obtain ⟨z, rfl, kz⟩ := numOK_ok (a := numB) (by decide) h2
    have q1 : ∀ T, run P 59 9 [N y (-20000), N z (-20000)] T = .ok (.bl (closeB y z)) T := fun T => c_are_close 54 y z _ T (ky.mono (by omega)) (kz.mono (by omega))
    have q2 : ∀ T, run P 59 9 [N z (-20000), N y (-20000)] T = .ok (.bl (closeB y z)) T := fun T => by
      rw [closeB_comm]
      exact c_are_close 54 z y _ T (kz.mono (by omega)) (ky.mono (by omega))
    have q3 : ∀ T, run P 59 40 [N y (-20000), N z (-20000)] T = .ok (.bl (closeB y z)) T := fun T => l_close 55 y z _ T (ky.mono (by omega)) (kz.mono (by omega))
    have q4 : ∀ T, opW .Mult T (.v (.tup [.bl (closeB y z)])) (.v (.int 2)) = some (.v (.tup [.bl (closeB y z), .bl (closeB y z)])) := fun T => rfl
    have q5 : ∀ T, run P 59 30 [.tup [.bl (closeB y z), .bl (closeB y z)], .tup [.bl (closeB y z), .bl (closeB y z)]] T = .ok (.bl true) T := fun T => l_same 58 _ T (pI_2 pI_bl pI_bl)
    simp -implicitDefEqProofs (disch := first | omega | assumption) only [g13.1, g13.2, q1, q2, q3, q4, q5, Bool.not_true, wp_ok, wp_bind, wp_ended, wps_nx, wps_rt, wps_bk, wps_ct, wps_st, wps_bind, wn, own_get, LL, List.cons_append, List.nil_append, x_tuple, slX_t, slX_v, slX_l, t_var, t_tup, t_n, t_c, ended_rt, ended_nx, get_0, get_s, put_0, put_s, Re.bind_ok, Re.st_ok, Re.of_some, SR.bind_nx, SR.bind_rt, W.st_v, W.st_t, W.i?_int, W.b?_bl, List.length_cons, List.length_nil, Nat.zero_add, Nat.reduceAdd, Nat.reduceLT, ↓reduceIte, if_true, if_false, Bool.false_eq_true, Bool.false_and, Bool.and_false, Bool.true_or, Bool.or_true, Bool.true_and, Bool.and_true, Bool.false_or, Bool.or_false, me_var, me_cst, me_gfn, me_tup, me_lst, me_bin, me_neg, me_cmp, me_chain, me_and, me_or, me_not, me_ife, me_ix, me_sl, me_call, me_callK, me_b1, me_b2, me_isi, me_bits, mo_n, mo_s, md_n, md_c, ms_asg, ms_own, ms_frz, ms_ret, ms_retN, ms_if, ms_whl, ms_brk, ms_cnt, ms_exp, ms_app, ms_setL, mexB_n, mexB_c, ms_for2, mit_sq, mit_rvd, mi_rng, mi_rng0, ms_par2]
    exact ⟨ele_ok (n := 40) (by decide) e2, hT⟩
  intro η T ⟨hη, hT⟩
  refine ansB_ok cts_ok an2 hη hT fun d T h _ => ?_
  obtain ⟨r, rfl, h2⟩ := aok_bl.mp h
  simp at h2
  rw [h2]
theorem main (ns : List Int) (hn : ns.length ≤ 63) : ∃ T1, Ev.run P 60 47 [.ro (ns.map .int)] [] = .ok (.bl true) T1 := by
  obtain ⟨d, T, e, rfl⟩ := wp_ex (main_w ns hn)
  exact ⟨T, e⟩
end K06
namespace K06
open Ev PySem PySem.Spec PyProof.Rows L2
def top (i : Nat) : Stmt := PySem.Challenge.pw_errorskept_k06_whole_close_pairs.main.body.getD i (.Pass ⟨0, 0, 0, 0⟩)
def tops : List Stmt := tix.map top
def il : List In := ix.map fun q => ⟨q.1, q.2.1, q.2.2.1, clsInit (top q.2.2.2)⟩
def file : Str := (PySem.Challenge.rw_errorskept_k06_whole_close_pairs).prog.main.file
theorem chk : ckAll tab bn tops = true := by kernel_rfl
theorem cha : clA tab bn il = true := by kernel_rfl
theorem cht : ((PySem.Challenge.rw_errorskept_k06_whole_close_pairs).prog.main.scope.names.lookup ("super" : Str)).isSome = false := by kernel_rfl
abbrev R : PySem.W.OpenRow := PySem.W.OpenLaw.row PySem.Challenge.rw_errorskept_k06_whole_close_pairs
abbrev hk : PySem.W.Hook := hookC 4 (faL tab bn) (fnL tab tops) il (fun K => clK K tab bn.cl il file)
def ob (s : PySem.W.SharedT) : AlC := obsC 4 (faL tab bn) (fnL tab tops) il (fun K => clK K tab bn.cl il file) (HandSHeadRun.getT s)
theorem ob_eq (s : PySem.W.SharedT) : ob s = hk.obs s.abs := obsC_eq (HandSHeadRun.getT_eq s)
def loose : List Str := (tab.eraseIdx 47).map (·.name) ++ (ownL' bn.cl).map (·.name)
theorem run_ (w : World) : HandSHeadRun.RunEq R (PySem.W.view R.prog [64]) hk ob 4000 loose w := by
  intro os
  kernel_rfl
end K06
open PySem PySem.W PySem.Calls PyProof.Rows
theorem cw_holds (main : ∀ ns : List Int, ns.length ≤ 63 → ∃ T1, Ev.run (fun f => K06.tab[f]?) 60 47 [.ro (ns.map .int)] [] = .ok (.bl true) T1) : PySem.Challenge.rw_errorskept_k06_whole_close_pairs.Holds := by
  w_on; o_law
  refine HandSHeadRun.head_any (r := OpenLaw.row PySem.Challenge.rw_errorskept_k06_whole_close_pairs) (q := view (OpenLaw.row PySem.Challenge.rw_errorskept_k06_whole_close_pairs).prog [64]) (H := K06.hk) (ob := K06.ob) (M := 4000) (loose := K06.loose) (d := HandSHeadRun.topDef (OpenLaw.row PySem.Challenge.rw_errorskept_k06_whole_close_pairs).prog 64) (kwd := []) K06.ob_eq
    (by kernel_rfl) (fun s => by kernel_rfl) K06.run_ (by kernel_rfl) (by kernel_rfl) (by kernel_rfl) (by rfl) (by first | assumption | decide +kernel) (by decide +kernel) ⟨rfl, rfl, rfl, rfl, rfl, by decide +kernel⟩ ?hw ?hc
  case hw => w_witness2
  case hc =>
    refine L2.walk_ofE (l := PySem.Challenge.rw_errorskept_k06_whole_close_pairs) (n := 63) (k := 62) (x := "script") (CX := Ev.CXw (PySem.Challenge.rw_errorskept_k06_whole_close_pairs).prog) rfl (by decide) (by kernel_rfl) ⟨rfl, by decide, by decide⟩ ?F Ev.cxw_none
    intro w mg fa h Y G hmg0
    obtain ⟨K, KX, c⟩ := Y
    have hmg : mg K06.d47.name = some (.ref fa) := by
      have e : (HandSHeadRun.topDef (OpenLaw.row PySem.Challenge.rw_errorskept_k06_whole_close_pairs).prog 64).name = K06.d47.name := by kernel_rfl
      rw [← e]
      exact hmg0
    exact Ev.law_ok (li := 47) K06.chk rfl (by kernel_rfl) main KX G c K06.cha K06.cht hmg
theorem PySem.Challenge.cw_errorskept_k06_whole_close_pairs_holds : PySem.Challenge.rw_errorskept_k06_whole_close_pairs.Holds := by
  exact cw_holds K06.main
