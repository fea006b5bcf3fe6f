import PyProof.Rows.All
import Wide.All
import OpenK.AllK
import Wide.FinOn
import KE.KExcSuper
import KE.KExcMake
import HandS.ForMost
import HandS.Exc
import HandS.ExcInit
import HandS.Nested
import HandS.TupAny
import HandS.Conv
import HandS.Strs
import HandS.IsInst
import HandS.ExcOwn
import HandS.WordsExc
import HandS.ExcField
import HandS.Defaults
import HandS.Head0
import HandS.Head1
import HandS.Head2
import HandS.HeadEnd
import HandS.HeadHook1
import HandS.HeadHook2
import HandS.HeadHook3
import HandS.HeadHook4
import HandS.Lambda
import KE.KDictList
import HandS.Rev
import HandS.Text
import PyProof.StrOps2
import HandS.Walk
import KE.KStateDown
import KE.KExcInit
import KE.KExcIs
import HandS.ExcIs
import HandS.TryMany
import HandS.CallLocal
import HandS.Style
import HandS.Dict
import HandS.More
import HandS.Small
import KE.KAsSuite
import HandS.Base
import HandS.Call
import HandS.TryOnly
import HandS.ExcCtx
import HandS.Hot
import HandS.HotCalls
import HandS.SuiteRaise
import HandS.RaiseFrom
import HandS.NestedHot
import HandS.ExcInitHot
import HandS.RevRange
import PyProof.AutoSeq1
import HandS.Deep
import HandS.Words
import HandS.HeadWalk
import PySem.Challenge.RW_treewarrant_k15_actions_of_rows
set_option Elab.async false
set_option linter.all false
set_option maxRecDepth 100000
set_option maxHeartbeats 0
namespace ExQ
open PySem PySem.Spec PyProof.Rows L2 NdefX

/-- an own __init__ of the class at D, as it stands behind the top -/
structure Ini (P : Program) (K : PySem.W.Frag) (D f cc : Addr) (F : NF) : Prop where
  lk : ∃ oc od sl doc pm ctv, K.lookup f = some ⟨oc, od, .func (F.fd doc pm ctv), sl⟩
  code : PySem.W.codeIn K (.ref F.c) F.qual = true
  file : ∃ ccl cdd vs ccs fl tf, K.lookup F.c = some ⟨ccl, cdd, .fields vs, ccs⟩ ∧ vs[2]? = some (.str fl tf) ∧ ((P.main.file : Str) == fl) = true
  top : (P.main.scope.names.lookup ("super" : Str)).isSome = false
  cl : F.cl = [(("__class__" : Str), cc)]
  cell : ∃ o : Obj, K.lookup cc = some o ∧ o.data = .cell (some (.ref D))
  par : ∃ ar, (F.params.posonlyargs ++ F.params.args).head? = some ar ∧ ar.arg = ("self" : Str)
/-- what stands behind D in the chain of C -/
structure Sup (K : PySem.W.Frag) (C D : Addr) (v : Value) : Prop where
  sup : PySem.W.ks_superIn K C D "__init__" = some (some v)
  sub : PySem.W.mroIn K C (.ref D) = some true
  cls : (PySem.W.clsIn K D).isSome = true
  opq : PySem.W.nsIn K cStatics "thirdparty.any" = some none

section
variable {X : Cx} {pins : List (Addr × Obj)} {σ : L2.St} {H : Hp} {s : Shared} {a C D f cc : Addr} {F : NF} {v : Value} {body : List Stmt}
theorem exo_inst (I : Inv X pins σ H s) (e : H a = some (exo a C none)) : ∃ t1, s.heap.get? a = some ({ cls := .ref C, dict := none, data := .fields #[.ref t1, .none, .none, .none, .bool false, .none] } : Obj) := exo_at I.hok e
theorem sup_base {p0 p1 : Pos} {whole : Sem Value} {Q : Value → Shared → Prop} (I : Inv X pins σ H s) (N : Ini X.prog X.K D f cc F) (S : Sup X.K C D v)
    (ms : X.mg "super" = none) (hfu : X.env.func = some f) (hco : X.env.code = .ref F.c) (hce : X.env.cells = F.cl)
    (hk1 : X.env.kindOf "super" = some .globalImplicit) (hk2 : X.env.kindOf "__class__" = some .free) (hk3 : X.env.kindOf "self" = some .local)
    (h0 : X.N[0]? = some ("self" : Str)) (hs0 : σ[0]? = some (some (.ref a))) (e : H a = some (exo a C none))
    (h : ∀ h', h'.get? s.heap.objs.size = some { cls := .type "super", dict := none, data := .fields #[.ref D, .ref a, .ref C], slots := #[] } → (∀ b o, s.heap.get? b = some o → h'.get? b = some o) → Q (.ref s.heap.objs.size) { s with heap := h' }) :
    _root_.PySem.wpAt (model X.prog X.w) X.A (.func body X.env) (attributeBase (.Call (.Name "super" p0) [] [] p1) "__init__" X.env whole) Q X.xe s := by
  obtain ⟨oc, od, sl, doc, pm, ctv, hf⟩ := N.lk
  obtain ⟨ccl, cdd, vs, ccs, fl, tf, hcc, hvs, hfile⟩ := N.file
  obtain ⟨ocell, hcell, hcd⟩ := N.cell
  obtain ⟨ar, hp, har⟩ := N.par
  have K0 := I.kIn
  obtain ⟨cdD, hD⟩ := Option.isSome_iff_exists.mp S.cls
  obtain ⟨oD, hD1, hD2⟩ : ∃ oD, s.heap.get? D = some oD ∧ oD.data = .cls cdD := by
    unfold PySem.W.clsIn at hD
    split at hD
    · rename_i c d cd' sl ho
      cases hD
      exact ⟨_, K0 _ _ ho, rfl⟩
    · cases hD
  obtain ⟨t1, ha⟩ := exo_inst I e
  obtain ⟨mb, hb1, hb2⟩ := I.mod.blt
  obtain ⟨m, hn, hl⟩ := I.loc
  obtain ⟨u, ru, lk⟩ := hl 0 "self" (.ref a) h0 hs0 (.inl hk3)
  obtain rfl : u = Value.ref a := ru
  have hm : m "self" = some (.ref a) := by
    rcases lk with ⟨_, z⟩ | ⟨z, _⟩
    · exact z
    · rw [hk3] at z
      rcases z with z | z <;> cases z
  refine ks_wpAt_super_base (env := X.env) (fd := F.fd doc pm ctv) hk1 hk2 (by decide) hfu (K0 _ _ hf) rfl hp hco (K0 _ _ hcc) rfl hvs hfile N.top ?_
  refine PySem.W.ks_loadName_global I.ok.kind hk1 (Calls.loadGlobal_builtin (env := X.env) (by rw [I.ok.glob]; exact I.mod.glob.keeps I.bk) ms (by rw [I.ok.blt]; exact hb1.keeps I.bk) ((hb2 "super" (by decide)).trans (by decide +kernel)) ⟨rfl, ?_⟩)
  refine wpAny_loadName_free I.ok.kind hk2 (c := cc) (by rw [hce, N.cl]; rfl) ⟨_, K0 _ _ hcell, hcd⟩ ?_
  rw [har]
  refine wpAny_loadName_local I.ok.kind hk3 hn hm ?_
  refine ks_wpAny_isType_cls hD1 hD2 ⟨rfl, ?_⟩
  obtain ⟨hh, g, d, t, os⟩ := s
  exact ks_wpAny_call_super hD1 hD2 ha rfl (fun c z => by cases z) (PySem.W.looks_mroIn K0 S.sub) (fun h' e k => h h' e k)

/-- the objects that a call makes on the way are kept in view as pins -/
theorem pin_new {h' : Heap} {o : Obj} (I : Inv X pins σ H { s with heap := h' }) (k : ∀ b o, s.heap.get? b = some o → h'.get? b = some o) (I0 : Inv X pins σ H s) {q : Addr} (hq : s.heap.objs.size ≤ q) (ho : h'.get? q = some o) (hd : ∀ v, o.data ≠ .cell v) :
    Inv X [(q, o)] σ H { s with heap := h' } := by
  refine I.pins_of fun p hp => ?_
  obtain rfl : p = (q, o) := by simpa using hp
  exact ⟨ho, I0.hok.fresh hq, Ne.symm (Nat.ne_of_lt (Nat.lt_of_lt_of_le I0.lt hq)), I0.nofs hq, hd⟩

theorem call_mw {u : Addr} {C : Addr} {rest : List Value} {Q : Value → Shared → Prop} {H : Hp} (T : OexC X.K C) (I : Inv X pins σ H s) (e : H a = some (exo a C none)) (hu : s.heap.get? u = some (PySem.W.kxs_mw "ValueError.__init__" a)) (hz : rest.length ≤ sizeLine)
    (h : ∀ s', Inv X pins σ H s' → Q .none s') : wpAny (model X.prog X.w) X.A (call (.ref u) rest) Q X.xe s := by
  obtain ⟨nm, q, N, bs, bm, sn, sub, ab, col, dd, k0, k1, k2, k3, k5, hC, hbm⟩ := T.cls
  obtain ⟨t1, ho⟩ := exo_at I.hok e
  obtain ⟨hh, g, d, tk, os⟩ := s
  have FB := PySem.F.excBase_ValueError
  refine wpAny_call (codeAny_of_tree ?_)
  show wpAny _ X.A.in1 (callAny (.ref u) ⟨rest, []⟩) _ _ _
  simp only [callAny]
  refine wpAny_bind (wpAny_load hu ?_)
  simp only [PySem.W.kxs_mw, show (Value.type "method-wrapper" == Value.type "method" || Value.type "method-wrapper" == Value.type "builtin_function_or_method" || Value.type "method-wrapper" == Value.type "method-wrapper") = true by decide, if_true]
  refine PySem.W.KFB.if_so (by decide) ?_
  refine wpAny_bind (PySem.W.check_bound_init FB.toExcCallFacts (I.kIn _ _ hC) ho rfl ?_)
  refine wpAny_bind (wpAny_pure (wpAny_pure ?_))
  refine ⟨plainId_quiet FB.init.plain _, codeAny_builtin FB.initEntry ?_⟩
  rw [Around.under_plainId FB.init.plain]
  refine PySem.W.exc_init_tree (cls := .ref C) (t0 := t1) (dv := none) (c2 := .none) (c3 := .none) (b4 := .bool false) ho hz fun h' k ex _ => ?_
  have J := I.write (t' := tk) (x := a) (e := a) (o := exo a C none) (h' := h') (by rw [e]; exact True.intro) (.inl rfl) k ⟨_, ex⟩ (exo_ok ex)
  have eu : upd H a (exo a C none) = H := by
    funext b
    by_cases hb : b = a
    · rw [hb, upd_same, e]
    · rw [upd_ne hb]
  rw [eu] at J
  exact h _ J

/-- super().__init__(y), ValueError behind D: the exception stays as it is -/
theorem st_base {p0 p1 p2 p3 p4 p5 : Pos} {y : Str} {p : V} {Q : Flow → Shared → Prop} (I : Inv X pins σ H s) (N : Ini X.prog X.K D f cc F) (S : Sup X.K C D (.builtin "ValueError.__init__")) (T : OexC X.K C) (sv : PySem.W.subIn X.K (.ref C) (.type "ValueError") = some true)
    (ms : X.mg "super" = none) (hfu : X.env.func = some f) (hco : X.env.code = .ref F.c) (hce : X.env.cells = F.cl)
    (hk1 : X.env.kindOf "super" = some .globalImplicit) (hk2 : X.env.kindOf "__class__" = some .free) (hk3 : X.env.kindOf "self" = some .local)
    (h0 : X.N[0]? = some ("self" : Str)) (hs0 : σ[0]? = some (some (.ref a))) (h1 : X.N[1]? = some y) (hv1 : Vis X.env.scope y) (hd : (y == ("__debug__" : Str)) = false) (hcd : (y == ("__classdict__" : Str)) = false)
    (hs1 : σ[1]? = some (some p)) (e : H a = some (exo a C none))
    {pl : Sem Bool} (hev : eval (.Call (.Attribute (.Call (.Name "super" p0) [] [] p1) "__init__" p2) [.Name y p3] [] p4) X.env = (do
      let ov ← attributeBase (.Call (.Name "super" p0) [] [] p1) "__init__" X.env (eval (.Call (.Name "super" p0) [] [] p1) X.env)
      standAt p2.atName
      let (f, first) ← holding [ov] (getMethod ov "__init__" pl)
      callWith p4 f first (backTo p4 (starEach [.Name y p3] X.env)) []))
    (hin : interactive X.env = false) (hsw : swapsWith (.Call (.Attribute (.Call (.Name "super" p0) [] [] p1) "__init__" p2) [.Name y p3] [] p4) none p5.line X.env = pure false)
    (h : ∀ s', Inv X pins σ H s' → Q .next s') :
    _root_.PySem.wpAt (model X.prog X.w) X.A (.func body X.env) (exec (.Expr (.Call (.Attribute (.Call (.Name "super" p0) [] [] p1) "__init__" p2) [.Name y p3] [] p4) p5) X.env) Q X.xe s := by
  refine ks_wpAt_Expr_any (ks_wpAt_MethodCall (sup_base I N S ms hfu hco hce hk1 hk2 hk3 h0 hs0 e fun h' hso k => ?_) hev) hin hsw
  have J : Inv X pins σ H { s with heap := h' } := I.kept (t' := s.toks) k
  obtain ⟨t1, ha⟩ := exo_inst J e
  obtain ⟨hh, g, d, t, os⟩ := s
  have K1 := J.kIn
  have IA : PySem.W.InstAt h' a ({ cls := .ref C, dict := none, data := .fields #[.ref t1, .none, .none, .none, .bool false, .none] } : Obj) C none := ⟨ha, rfl, rfl, trivial⟩
  cases hc : PySem.W.clsIn X.K C with
  | none =>
    have z := S.sup
    unfold PySem.W.ks_superIn at z
    rw [hc] at z
    cases z
  | some cd =>
    have z := S.sup
    unfold PySem.W.ks_superIn at z
    rw [hc] at z
    refine PySem.W.kxs_getMethod PySem.W.kxs_ValueError hso (PySem.W.looks_opaque K1 S.opq) (l₀ := cd.mro) ?_ rfl K1 z (IA.type.andThen (PySem.W.looks_subIn K1 sv)) (PySem.W.ks_ne K1 IA hc) (by decide) ?_
    · exact fun A Q E s k q => wpAny_bind ((PySem.W.looks_clsIn K1 hc) A _ E s k (wpAny_pure q))
    · have k2 : ∀ b o, h'.get? b = some o → (h'.push (PySem.W.kxs_mw "ValueError.__init__" a)).get? b = some o := fun b o q => Heap.get?_push_of_some _ q
      have J2 : Inv X pins σ H ⟨h'.push (PySem.W.kxs_mw "ValueError.__init__" a), g, d, t + 1, os⟩ := J.kept (t' := t + 1) k2
      have J3 : Inv X ((h'.objs.size, PySem.W.kxs_mw "ValueError.__init__" a) :: pins) σ H ⟨h'.push (PySem.W.kxs_mw "ValueError.__init__" a), g, d, t + 1, os⟩ := J2.pins_of fun q hq => by
        rcases List.mem_cons.mp hq with rfl | hq
        · exact ⟨Heap.get?_push_at rfl rfl, J.hok.fresh (Nat.le_refl _), Ne.symm (Nat.ne_of_lt J.lt), J.nofs (Nat.le_refl _), fun v z => by cases z⟩
        · exact J2.pin q (List.mem_append_right _ hq)
      refine PySem.W.kxs_callWith (i := "ValueError.__init__") (x := a) (first := []) (args := backTo p4 (starEach [.Name y p3] X.env)) (by rfl) ?_
      have pa : PA X [.Name y p3] (tCons (tVar 1) tNil) := pa_cons (pe_var h1 hv1 hd hcd) pa_nil
      refine Calls.evalArgs_plain (thn (pa.run p4 _ _ σ H (fun vs H' => vs = [p] ∧ H' = H) J3 ⟨p, hs1, rfl, rfl⟩) fun us s1 ⟨vs, H1, I1, r1, hv, hH⟩ => ?_)
      subst hv hH
      refine ⟨(I1.pin _ (List.mem_append_right _ (List.mem_cons_self ..))).1, ?_⟩
      have I2 : Inv X pins σ H1 s1 := I1.pins_of fun q hq => I1.pin q (List.mem_append_right _ (List.mem_cons_of_mem _ hq))
      refine call_mw T I2 e (I1.pin _ (List.mem_append_right _ (List.mem_cons_self ..))).1 ?_ h
      have hl := Paired.length r1
      show us.length ≤ sizeLine
      rw [← hl]
      exact Nat.le_of_lt (small1000 (show 1 ≤ 1000 by decide))

/-- super().__init__(y), the own __init__ at f2 behind D -/
theorem st_own {CX : CXT} {k f2 : Nat} {fd2 : FuncData} {ps2 : List Str} {sp : Sp} {p0 p1 p2 p3 p4 p5 : Pos} {y : Str} {p : V} {Q : Flow → Shared → Prop} (I : Inv X [] σ H s) (N : Ini X.prog X.K D f cc F) (S : Sup X.K C D (.ref f2))
    (F2 : FnOk X.prog X.w X.K X.mg X.base CX k f2 fd2 ps2 sp) (hr : Room k X.A) (hb : Binds X.K fd2 ps2 []) (hx : Passes CX X (fun _ _ _ => False)) (ty : PySem.W.typeIn X.K (.ref f2) = some (.type "function")) (fi : PySem.W.fnIn X.K f2 = true)
    (ms : X.mg "super" = none) (hfu : X.env.func = some f) (hco : X.env.code = .ref F.c) (hce : X.env.cells = F.cl)
    (hk1 : X.env.kindOf "super" = some .globalImplicit) (hk2 : X.env.kindOf "__class__" = some .free) (hk3 : X.env.kindOf "self" = some .local)
    (h0 : X.N[0]? = some ("self" : Str)) (hs0 : σ[0]? = some (some (.ref a))) (h1 : X.N[1]? = some y) (hv1 : Vis X.env.scope y) (hd : (y == ("__debug__" : Str)) = false) (hcd : (y == ("__classdict__" : Str)) = false)
    (hs1 : σ[1]? = some (some p)) (e : H a = some (exo a C none))
    {pl : Sem Bool} (hev : eval (.Call (.Attribute (.Call (.Name "super" p0) [] [] p1) "__init__" p2) [.Name y p3] [] p4) X.env = (do
      let ov ← attributeBase (.Call (.Name "super" p0) [] [] p1) "__init__" X.env (eval (.Call (.Name "super" p0) [] [] p1) X.env)
      standAt p2.atName
      let (f, first) ← holding [ov] (getMethod ov "__init__" pl)
      callWith p4 f first (backTo p4 (starEach [.Name y p3] X.env)) []))
    (hin : interactive X.env = false) (hsw : swapsWith (.Call (.Attribute (.Call (.Name "super" p0) [] [] p1) "__init__" p2) [.Name y p3] [] p4) none p5.line X.env = pure false)
    (h : sp [.ref a, p] H (fun _ H' => ∀ s', Inv X [] σ H' s' → Q .next s') (fun _ _ _ => False)) :
    _root_.PySem.wpAt (model X.prog X.w) X.A (.func body X.env) (exec (.Expr (.Call (.Attribute (.Call (.Name "super" p0) [] [] p1) "__init__" p2) [.Name y p3] [] p4) p5) X.env) Q X.xe s := by
  refine ks_wpAt_Expr_any (ks_wpAt_MethodCall (sup_base I N S ms hfu hco hce hk1 hk2 hk3 h0 hs0 e fun h' hso k => ?_) hev) hin hsw
  have J : Inv X [] σ H { s with heap := h' } := I.kept (t' := s.toks) k
  obtain ⟨t1, ha⟩ := exo_inst J e
  obtain ⟨hh, g, d, t, os⟩ := s
  have K1 := J.kIn
  have IA : PySem.W.InstAt h' a ({ cls := .ref C, dict := none, data := .fields #[.ref t1, .none, .none, .none, .bool false, .none] } : Obj) C none := ⟨ha, rfl, rfl, trivial⟩
  obtain ⟨of, hof, hofc⟩ : ∃ of, h'.get? f2 = some of ∧ of.cls = .type "function" := by
    have ht' : (X.K.lookup f2).map (·.cls) = some (.type "function") := ty
    cases z : X.K.lookup f2 with
    | none => rw [z] at ht'; cases ht'
    | some of => rw [z] at ht'; exact ⟨of, K1 _ _ z, Option.some.inj ht'⟩
  cases hc : PySem.W.clsIn X.K C with
  | none =>
    have z := S.sup
    unfold PySem.W.ks_superIn at z
    rw [hc] at z
    cases z
  | some cd =>
    have z := S.sup
    unfold PySem.W.ks_superIn at z
    rw [hc] at z
    refine ks_wpAny_getMethod_super hso (PySem.W.looks_opaque K1 S.opq) (l₀ := cd.mro) ?_ rfl K1 z hof hofc (PySem.W.ks_ne K1 IA hc) (by decide) ?_
    · exact fun A Q E s k q => wpAny_bind ((PySem.W.looks_clsIn K1 hc) A _ E s k (wpAny_pure q))
    · have k2 : ∀ b o, h'.get? b = some o → (h'.push (PySem.W.methodObj (.ref f2) (.ref a))).get? b = some o := fun b o q => Heap.get?_push_of_some _ q
      have J2 : Inv X [] σ H ⟨h'.push (PySem.W.methodObj (.ref f2) (.ref a)), g, d, t + 1, os⟩ := J.kept (t' := t + 1) k2
      have J3 : Inv X [(h'.objs.size, PySem.W.methodObj (.ref f2) (.ref a))] σ H ⟨h'.push (PySem.W.methodObj (.ref f2) (.ref a)), g, d, t + 1, os⟩ := J2.pins_of fun q hq => by
        obtain rfl : q = (h'.objs.size, PySem.W.methodObj (.ref f2) (.ref a)) := by simpa using hq
        exact ⟨Heap.get?_push_at rfl rfl, J.hok.fresh (Nat.le_refl _), Ne.symm (Nat.ne_of_lt J.lt), J.nofs (Nat.le_refl _), fun v z => by cases z⟩
      refine PySem.W.callWith_of (P := PySem.W.MethP X.K h'.objs.size f2 (.ref a)) (first := []) (args := backTo p4 (starEach [.Name y p3] X.env)) (by rfl) (PySem.W.keeps_M fi) ?_
      have pa : PA X [.Name y p3] (tCons (tVar 1) tNil) := pa_cons (pe_var h1 hv1 hd hcd) pa_nil
      refine Calls.evalArgs_plain (thn (pa.run p4 _ _ σ H (fun vs H' => vs = [p] ∧ H' = H) J3 ⟨p, hs1, rfl, rfl⟩) fun us s1 ⟨vs, H1, I1, r1, hv, hH⟩ => ?_)
      subst hv hH
      have hq := (I1.pin (h'.objs.size, PySem.W.methodObj (.ref f2) (.ref a)) (List.mem_append_right _ (List.mem_cons_self ..))).1
      refine ⟨⟨hq, I1.kIn⟩, ?_⟩
      have I2 : Inv X [] σ H1 s1 := I1.pins_of fun q hq => nomatch hq
      refine wpAny_call (ks_codeAny_call_bound hq ?_)
      have r2 : Vals [.ref a, p] (Value.ref a :: us) := .cons rfl r1
      have hl : (Value.ref a :: us).length = ps2.length := by rw [← r2.length]; exact F2.len _ _ _ _ h
      have r3 : (Value.ref a :: us) = (Value.ref a :: us) ++ ([] : List Value) := (List.append_nil _).symm
      have bb := hb s1 (Value.ref a :: us) I2.kIn (by rw [List.append_nil]; exact hl)
      rw [List.append_nil] at bb
      show codeAny _ _ (.call (.ref f2) ⟨Value.ref a :: us, []⟩) _ _
      refine codeAny_mono (F2.run X.A X.stack s1 H1 ⟨Value.ref a :: us, []⟩ (Value.ref a :: us) [.ref a, p] _ _ hr I2.env0 bb r2 h) fun r s' hq => ?_
      cases r with
      | error e => exact hx [] σ H1 s1 e s' I2 hq
      | ok fl =>
        cases fl with
        | ret u =>
          obtain ⟨v', H', J', rv, q⟩ := I2.after (σ := σ) hq
          exact q s' J'
        | next => exact False.elim hq
        | brk => exact False.elim hq
        | cont => exact False.elim hq
end

/-- an exception in the making, with its dict -/
def mkd (H : Hp) (dx a C : Addr) (fs : List (Str × V)) : Hp := upd (upd H dx (exd dx fs)) a (exo a C (some dx))
theorem mkd_a {H : Hp} {dx a C : Addr} {fs : List (Str × V)} : mkd H dx a C fs a = some (exo a C (some dx)) := upd_same
theorem mkd_dx {H : Hp} {dx a C : Addr} {fs : List (Str × V)} (n : dx ≠ a) : mkd H dx a C fs dx = some (exd dx fs) := (upd_ne n).trans upd_same
theorem mkd_upd {H : Hp} {dx a C : Addr} {fs gs : List (Str × V)} (n : dx ≠ a) : upd (mkd H dx a C fs) dx (exd dx gs) = mkd H dx a C gs := by
  funext b
  unfold mkd
  by_cases hb : b = dx
  · subst hb; rw [upd_same, upd_ne n, upd_same]
  · rw [upd_ne hb]
    by_cases ha : b = a
    · subst ha; rw [upd_same, upd_same]
    · rw [upd_ne ha, upd_ne ha, upd_ne hb, upd_ne hb]
theorem mkd_end {H1 : Hp} {dx a C : Addr} {fs : List (Str × V)} (n : dx ≠ a) (ha : H1 a = none) : upd (del (mkd (upd H1 a (exo a C none)) dx a C fs) a) dx (.xd fs) = upd H1 dx (.xd fs) := by
  funext b
  by_cases hb : b = dx
  · subst hb; rw [upd_same, upd_same]
  · rw [upd_ne hb, upd_ne hb]
    by_cases hba : b = a
    · subst hba; rw [del_same, ha]
    · rw [del_ne hba]
      unfold mkd
      rw [upd_ne hba, upd_ne hb, upd_ne hba]

/-- what is known of an own class C over the class at D, itself over ValueError -/
structure BC (K : PySem.W.Frag) (C D : Addr) : Prop where
  oex : OexC K C
  sup : Sup K C D (.builtin "ValueError.__init__")
  sv : PySem.W.subIn K (.ref C) (.type "ValueError") = some true
  np : PySem.W.findIn K (.ref C) "place" = some none
  nn : PySem.W.findIn K (.ref C) "name" = some none
abbrev fB (nm : Str) (p : V) : List (Str × V) := [("name", .str nm), ("place", p)]
abbrev fD (nm nb : Str) (p : V) : List (Str × V) := ("name", .str nm) :: fB nb p
/-- the promise of the base's __init__ -/
def spB (K : PySem.W.Frag) (D : Addr) (nm : Str) : Sp := fun vs H Q _ => ∃ (a C : Addr) (p : V), vs = [.ref a, p] ∧ BC K C D ∧ H a = some (exo a C none) ∧ ∀ dx, H dx = none → dx ≠ a → Q .non (mkd H dx a C (fB nm p))
/-- the promise of an own class's __init__ -/
def spD (C : Addr) (nm nb : Str) : Sp := fun vs H Q _ => ∃ (a : Addr) (p : V), vs = [.ref a, p] ∧ H a = some (exo a C none) ∧ ∀ dx, H dx = none → dx ≠ a → Q .non (mkd H dx a C (fD nm nb p))

section
variable {CX : CXT} {P : Program} {w : World} {K : PySem.W.Frag} {mg : Str → Option Value} {base : Heap} {f cc D : Addr} {F : NF} {k : Nat} {sp : Sp} {y : Str}
/-- THE RULE: an own __init__ by its body, whose first statement is super().__init__(..) -/
theorem ini_ok (Ni : Ini P K D f cc F) (S : NScope ["self", y, "__class__"] ["self", y] ["__class__"] F.scope) (hb : ∀ (doc pm ctv : Value) (us : List Value), us.length = 2 → bindArgs (F.fd doc pm ctv) ⟨us, []⟩ = pure ((["self", y] : List Str).zip us)) (len : ∀ vs H Q E, sp vs H Q E → vs.length = 2)
    (hbody : ∀ (A : Around) (outer : List Env) (s : Shared) (H : Hp) (vs : List V) (Q : VK) (E : XK), Room k (A.deeper (envF F f s.heap.objs.size)) → sp vs H Q E →
      ∀ s1, Inv (ncx CX P w K mg base ["self", y, "__class__"] F f A outer s H E) [] (startF ["self", y, "__class__"] vs [some (.ref D)]) H s1 →
        _root_.PySem.wpAt (model P w) (A.deeper (envF F f s.heap.objs.size)) (.func F.body (envF F f s.heap.objs.size)) (execs F.body (envF F f s.heap.objs.size))
          (SP (ncx CX P w K mg base ["self", y, "__class__"] F f A outer s H E) [] { nx := fun _ H' => Q .non H', rt := Q }) (ncx CX P w K mg base ["self", y, "__class__"] F f A outer s H E).xe s1) :
    ∃ fd, FnOk P w K mg base CX (k + 1) f fd ["self", y] sp ∧ Binds K fd ["self", y] [] := by
  obtain ⟨oc, od, sl, doc, pm, ctv, lk⟩ := Ni.lk
  obtain ⟨ocell, hcell, hcd⟩ := Ni.cell
  refine ⟨F.fd doc pm ctv, ⟨fun vs H Q E h => len vs H Q E h, fun A outer s H args us vs Q E hr e0 hbind r hsp => ?_⟩, .all fun us hl => hb doc pm ctv us hl⟩
  have hl := len _ _ _ _ hsp
  have kb : ∀ b o, base.get? b = some o → s.heap.get? b = some o := fun b o e => (e0.bs b o e).1
  have lim : s.heap.NoLimit := e0.mod.nolimit.keeps kb
  have K0 : K.In s.heap := e0.mod.kin.keeps kb
  have hC : CellsAt F.cl ["__class__"] [some (.ref D)] s.heap H := by
    have hcc := e0.bs _ _ (e0.mod.kin _ _ hcell)
    have one : ∀ z c, F.cl.lookup z = some c → z = ("__class__" : Str) ∧ c = cc := fun z c q => by
      rw [Ni.cl] at q
      by_cases hz : z = ("__class__" : Str)
      · subst hz
        have q' : some cc = some c := q
        cases q'
        exact ⟨rfl, rfl⟩
      · have e1 : (z == ("__class__" : Str)) = false := by simpa using hz
        simp [List.lookup, e1] at q
    refine ⟨rfl, fun z c q => ?_, fun x z c q1 q2 => (one _ _ q1).1.trans (one _ _ q2).1.symm, fun i z hz => ?_⟩
    · obtain ⟨_, rfl⟩ := one z c q
      exact ⟨hcc.2, _, _, hcc.1, hcd⟩
    · match i, hz with
      | 0, hz =>
        have hz' : some ("__class__" : Str) = some z := hz
        cases hz'
        refine ⟨cc, by rw [Ni.cl]; rfl, fun v hv => ?_⟩
        have hv' : some (some (V.ref D)) = some (some v) := hv
        cases hv'
        exact ⟨_, rfl, _, hcc.1, hcd⟩
      | i + 1, hz =>
        have hz' : (none : Option Str) = some z := by simpa using hz
        cases hz'
  refine ks_codeAny_call_defAt (body := F.body) hr.depth (K0 _ _ lk) rfl lim (PySem.W.codeRec_of K0 Ni.code) rfl hbind S.nocell (fun ⟨n, _⟩ hy => S.par n (List.of_mem_zip hy).1) (fun h0 hns hk => ?_) S.co S.gen S.kind
  have I : Inv (ncx CX P w K mg base ["self", y, "__class__"] F f A outer s H E) [] (startF ["self", y, "__class__"] vs [some (.ref D)]) H { s with heap := h0, toks := s.toks + ((["self", y] : List Str).zip us).length } := inv_startN S hr.hd e0 hl r hC hns hk
  refine ks_wpAt_mono (hbody A outer s H vs Q E (hr.deeper _) hsp _ I) (fun fl s' hs => ?_) fun e s' hs => hs
  have fin : ∀ {sg : L2.St} {H' : Hp} {v : V} {u : Value}, Inv (ncx CX P w K mg base ["self", y, "__class__"] F f A outer s H E) [] sg H' s' → L2.RelV v u → Q v H' → CE outer P w H s Q u s' :=
    fun {sg H' v u} J rv q => ⟨v, H', J.os, J.bare, J.base, J.hok, rv, q⟩
  cases fl with
  | ret u =>
    obtain ⟨v, sg, H', J, rv, q⟩ := hs
    exact fin J rv q
  | next =>
    obtain ⟨sg, H', J, q⟩ := hs
    exact fin (v := V.non) (u := Value.none) J rfl q
  | brk =>
    obtain ⟨_, _, _, q⟩ := hs
    exact False.elim q
  | cont =>
    obtain ⟨_, _, _, q⟩ := hs
    exact False.elim q
end

/-- a method's call that stands on one line -/
theorem ev_line {o : Expr} {name : Str} {apos pos q : Pos} {y : Str} {env : Env} (hl : (apos.endLine == pos.line) = true) :
    eval (.Call (.Attribute o name apos) [.Name y q] [] pos) env = (do
      let ov ← attributeBase o name env (eval o env)
      standAt apos.atName
      let (f, first) ← holding [ov] (getMethod ov name (do return (← importBound o env).getD true))
      callWith pos f first (backTo pos (starEach [.Name y q] env)) []) := by
  have hp : methodCallPos true o env apos pos = pure pos := by
    unfold methodCallPos
    rw [hl]
    rfl
  have e : eval (.Call (.Attribute o name apos) [.Name y q] [] pos) env = (do
      let ov ← attributeBase o name env (eval o env)
      standAt apos.atName
      let (f, first) ← holding [ov] (calleeOf true o env ov name)
      let callPos ← methodCallPos true o env apos pos
      callWith callPos f first (backTo pos (starEach [.Name y q] env)) []) := by rfl
  rw [e, hp]
  rfl
def scI : Scope := { kind := .function, names := [(("self" : Str), .local), (("place" : Str), .local), (("__class__" : Str), .free), (("super" : Str), .globalImplicit)], isGenerator := false, isCoroutine := false, more := [] }
theorem scI_ok : NScope ["self", "place", "__class__"] ["self", "place"] ["__class__"] scI := nscope_by (by decide +kernel)
def parI (a1 a2 : Pos) : Arguments := { posonlyargs := [], args := [{ arg := "self", annotation := none, pos := a1 }, { arg := "place", annotation := none, pos := a2 }], vararg := none, kwonlyargs := [], kw_defaults := [], kwarg := none, defaults := [] }
abbrev supSt (p0 p1 p2 p3 p4 p5 : Pos) : Stmt := .Expr (.Call (.Attribute (.Call (.Name "super" p0) [] [] p1) "__init__" p2) [.Name "place" p3] [] p4) p5
section
variable {CX : CXT} {P : Program} {w : World} {K : PySem.W.Frag} {mg : Str → Option Value} {base : Heap} {f cc D : Addr} {name qual nm nb : Str} {c : Addr} {cl : List (Str × Addr)} {k : Nat}
theorem init_base {a1 a2 p0 p1 p2 p3 p4 p5 q1 q2 q3 q4 r1 r2 r3 r4 : Pos} {u : Nat}
    (Ni : Ini P K D f cc ⟨name, qual, parI a1 a2, [supSt p0 p1 p2 p3 p4 p5, .Assign [.Attribute (.Name "self" q1) "place" q2] (.Name "place" q3) q4, .Assign [.Attribute (.Name "self" r1) "name" r2] (.Constant (.str nm) u r3) r4], scI, cl, c⟩) (hl : (p2.endLine == p4.line) = true) (ms : mg "super" = none) :
    ∃ fd, FnOk P w K mg base CX (k + 1) f fd ["self", "place"] (spB K D nm) ∧ Binds K fd ["self", "place"] [] := by
  refine ini_ok Ni scI_ok (fun _ _ _ us hl => match us, hl with | [_, _], _ => rfl) (fun vs H Q E h => ?_) fun A outer s H vs Q E hr hsp s1 I => ?_
  · obtain ⟨a, C, p, rfl, _⟩ := h
    rfl
  obtain ⟨a, C, p, rfl, B, e, q⟩ := hsp
  refine ks_wpAt_execs_cons ?_
  refine st_base I Ni B.sup B.oex B.sv ms rfl rfl rfl rfl rfl rfl rfl rfl rfl (.inl rfl) (by decide) (by decide) rfl e (ev_line hl) rfl rfl fun s' I' => ?_
  have d : PSs (ncx CX P w K mg base ["self", "place", "__class__"] ⟨name, qual, parI a1 a2, [supSt p0 p1 p2 p3 p4 p5, .Assign [.Attribute (.Name "self" q1) "place" q2] (.Name "place" q3) q4, .Assign [.Attribute (.Name "self" r1) "name" r2] (.Constant (.str nm) u r3) r4], scI, cl, c⟩ f A outer s H E)
      [.Assign [.Attribute (.Name "self" q1) "place" q2] (.Name "place" q3) q4, .Assign [.Attribute (.Name "self" r1) "name" r2] (.Constant (.str nm) u r3) r4] _ :=
    pss_cons (ps_ost (pe_var (i := 0) rfl (.inl rfl)) (pe_var (i := 1) rfl (.inl rfl))) (pss_one (ps_ost (pe_var (i := 0) rfl (.inl rfl)) pe_str))
  refine _root_.PySem.wpAt_of_wpAny (d.run [] s' _ H _ I' ?_)
  refine ⟨p, rfl, .ref a, rfl, a, C, rfl, B.oex, B.np, .inl ⟨e, fun dx hdx ne => ?_⟩⟩
  refine ⟨.ref a, rfl, a, C, rfl, B.oex, B.nn, .inr ⟨dx, _, upd_same, mkd_dx ne, (show 1 ≤ 900 by decide), ?_⟩⟩
  show Q .non _
  rw [show upd (upd H dx (exd dx [("place", p)])) a (exo a C (some dx)) = mkd H dx a C [("place", p)] from rfl, mkd_upd ne]
  exact q dx hdx ne
theorem init_own {a1 a2 p0 p1 p2 p3 p4 p5 r1 r2 r3 r4 : Pos} {u : Nat} {C f2 D0 : Addr} {fd2 : FuncData}
    (Ni : Ini P K C f cc ⟨name, qual, parI a1 a2, [supSt p0 p1 p2 p3 p4 p5, .Assign [.Attribute (.Name "self" r1) "name" r2] (.Constant (.str nm) u r3) r4], scI, cl, c⟩) (hl : (p2.endLine == p4.line) = true) (ms : mg "super" = none)
    (B : BC K C D0) (S : Sup K C C (.ref f2)) (F2 : FnOk P w K mg base CX0 k f2 fd2 ["self", "place"] (spB K D0 nb)) (hb : Binds K fd2 ["self", "place"] []) (ty : PySem.W.typeIn K (.ref f2) = some (.type "function")) (fi : PySem.W.fnIn K f2 = true) :
    ∃ fd, FnOk P w K mg base CX (k + 1) f fd ["self", "place"] (spD C nm nb) ∧ Binds K fd ["self", "place"] [] := by
  refine ini_ok Ni scI_ok (fun _ _ _ us hl => match us, hl with | [_, _], _ => rfl) (fun vs H Q E h => ?_) fun A outer s H vs Q E hr hsp s1 I => ?_
  · obtain ⟨a, p, rfl, _⟩ := h
    rfl
  obtain ⟨a, p, rfl, e, q⟩ := hsp
  refine ks_wpAt_execs_cons ?_
  refine st_own (C := C) I Ni S F2 hr hb pass0 ty fi ms rfl rfl rfl rfl rfl rfl rfl rfl rfl (.inl rfl) (by decide) (by decide) rfl e (ev_line hl) rfl rfl ?_
  refine ⟨a, C, p, rfl, B, e, fun dx hdx ne s' I' => ?_⟩
  have d : PSs (ncx CX P w K mg base ["self", "place", "__class__"] ⟨name, qual, parI a1 a2, [supSt p0 p1 p2 p3 p4 p5, .Assign [.Attribute (.Name "self" r1) "name" r2] (.Constant (.str nm) u r3) r4], scI, cl, c⟩ f A outer s H E)
      [.Assign [.Attribute (.Name "self" r1) "name" r2] (.Constant (.str nm) u r3) r4] _ :=
    pss_one (ps_ost (pe_var (i := 0) rfl (.inl rfl)) pe_str)
  refine _root_.PySem.wpAt_of_wpAny (d.run [] s' _ _ _ I' ?_)
  refine ⟨.ref a, rfl, a, C, rfl, B.oex, B.nn, .inr ⟨dx, _, mkd_a, mkd_dx ne, (show 2 ≤ 900 by decide), ?_⟩⟩
  show Q .non _
  rw [mkd_upd ne]
  exact q dx hdx ne
end

/-! ### raising -/
/-- C(e): the exception's own dict has name, name of the base, place -/
def tMkX (C : Addr) (fs : V → List (Str × V)) (te : TE) : L2.St → Hp → XK → Prop := fun σ H Q => te σ H fun p H1 => ∀ d, H1 d = none → Q (.ref C) (some d) (upd H1 d (.xd (fs p)))
/-- a class that is raised: its facts -/
structure Rs (P : Program) (w : World) (K : PySem.W.Frag) (mg : Str → Option Value) (base : Heap) (x : Str) (C : Addr) (k : Nat) (fs : V → List (Str × V)) : Prop where
  oex : OexC K C
  ini : ∃ fI fd, PySem.W.findIn K (.ref C) "__init__" = some (some (.ref fI)) ∧ PySem.W.typeIn K (.ref fI) = some (.type "function") ∧ Binds K fd ["self", "place"] [] ∧
    FnOk P w K mg base CX0 k fI fd ["self", "place"] (fun vs H Q _ => ∃ (a : Addr) (p : V), vs = [.ref a, p] ∧ H a = some (exo a C none) ∧ ∀ dx, H dx = none → dx ≠ a → Q .non (mkd H dx a C (fs p)))
  mgC : mg x = some (.ref C)
/-- a reading closed under weaker wishes -/
def tUp (te : TE) : TE := fun σ H Q => ∃ R : VK, te σ H R ∧ ∀ v H1, R v H1 → Q v H1
theorem pe_up {X : Cx} {e : Expr} {te : TE} (h : PE X e te) : PE X e (tUp te) := ⟨fun pins s σ H Q I ⟨R, q, m⟩ => thn (h.run pins s σ H R I q) fun u s' ⟨v, H', J, r, z⟩ => ⟨v, H', J, r, m v H' z⟩⟩
section
variable {X : Cx} {x : Str} {C : Addr} {k : Nat} {fs : V → List (Str × V)} {e : Expr} {te : TE} {p pos : Pos}
theorem pmk_x (R : Rs X.prog X.w X.K X.mg X.base x C k fs) (hr : Room (k + 1) X.A) (hg : Gl X x) (he : PE X e te)
    (hdb : (x == ("__debug__" : Str)) = false := by decide) (hst : starEach [e] X.env = (false, eval e X.env) :: starEach [] X.env := by rfl) :
    PMk X (.Call (.Name x p) [e] [] pos) (tMkX C fs te) := by
  obtain ⟨fI, fd, h1, h2, hb, F1⟩ := R.ini
  have q := pmk_oex (p := p) (pos := pos) R.oex h1 h2 F1 hr hb .nil (by exact pass0) hg R.mgC (pa_cons (pe_up he) pa_nil hst) hdb hst rfl
  intro pins s σ H Q I h
  refine q pins s σ H Q I ?_
  refine ⟨_, h, fun v H1 r => ⟨(show 1 ≤ 1000 by decide), fun a ha => ⟨a, v, rfl, upd_same, fun dx hdx ne => ⟨rfl, dx, _, mkd_a, mkd_dx ne, ?_, ?_⟩⟩⟩⟩
  · rw [upd_ne ne] at hdx
    exact hdx
  · rw [mkd_end ne ha]
    exact r dx (by rw [upd_ne ne] at hdx; exact hdx)
end
end ExQ

/-! Tuples that are known to have no dict of their own: their methods may be called (t.index). -/
namespace Tn
open PySem PySem.Spec PyProof.Rows L2
/-- a tuple without a dict -/
def SqN (K : PySem.W.Frag) (H : Hp) (a : Addr) (xs : List V) : Prop := (∃ o, H a = some (.frz o (.tup xs)) ∧ o.dict = none) ∨ (SqT K (fun _ => none) a xs ∧ ∃ o, K.lookup a = some o ∧ o.cls = .type "tuple" ∧ o.dict = none)
theorem SqN.t {K : PySem.W.Frag} {H : Hp} {a : Addr} {xs : List V} (h : SqN K H a xs) : SqT K H a xs := by
  rcases h with ⟨o, h, _⟩ | ⟨h, _⟩
  · exact .inl (.inr ⟨o, h⟩)
  · rcases h with (h | ⟨o, h⟩) | h
    · cases h
    · cases h
    · exact .inr h
theorem SqN.known {K : PySem.W.Frag} {H : Hp} {a : Addr} {xs : List V} {o : Obj} (h : SqT K (fun _ => none) a xs) (h1 : K.lookup a = some o) (h2 : o.cls = .type "tuple") (h3 : o.dict = none) : SqN K H a xs := .inr ⟨h, o, h1, h2, h3⟩
section
variable {X : Cx} {e : Expr} {es : List Expr} {te : TE} {t : TA} {pos : Pos} {pins : List (Addr × Obj)} {σ : L2.St} {H : Hp} {s : Shared} {a : Addr} {xs : List V}
/-- a new tuple -/
theorem laidN {h' : Heap} {its : List Value} {t' : Nat} (I : Inv X pins σ H s) (hz : xs.length ≤ sizeLine) (r : Vals xs its) (k : ∀ b u, s.heap.get? b = some u → h'.get? b = some u) (hp : s.heap.objs.size ≤ a) {ob : Obj} (hg : h'.get? a = some ob) (hc : ob.cls = .type "tuple") (hd : ∃ n, ob.data = .seq its.toArray n) :
    Inv X pins σ (upd H a (.frz ob (.tup xs))) { s with heap := h', toks := t' } := I.laid k hp ⟨hg, hz, its, r, ob, hg, hc, hd⟩
/-- a tuple of written items -/
def tTupN (t : TA) : TE := fun σ H Q => t σ H fun xs H1 => xs.length ≤ sizeLine ∧ ∀ p o, H1 p = none → o.dict = none → Q (.ref p) (upd H1 p (.frz o (.tup xs)))
theorem pe_tupN {x1} (h : PA X es t) : PE X (.Tuple es x1 pos) (tTupN t) := by
  refine ⟨fun pins s σ H Q I hq => ?_⟩
  refine wpAny_Tuple_spliced (thn (h.run pos pins s σ H _ I hq) fun us s1 ⟨xs, H1, I1, r, z, q⟩ => ⟨by rw [← r.length]; exact z, ?_⟩)
  have hf : H1 s1.heap.objs.size = none := I1.hok.fresh (Nat.le_refl _)
  exact ⟨.ref s1.heap.objs.size, _, laidN (t' := s1.toks) I1 z r (fun b u e => Heap.get?_push_of_some _ e) (Nat.le_refl _) (Heap.get?_push_size _ rfl) rfl ⟨_, rfl⟩, rfl, q _ _ hf rfl⟩
theorem call_tupleN : CallR X (.type "tuple") (fun xs H Q => ∃ p ys, xs = [.ref p] ∧ ((SqL X.K H p ys ∧ ∀ l o, H l = none → o.dict = none → Q (.ref l) (upd H l (.frz o (.tup ys)))) ∨ (SqT X.K H p ys ∧ Q (.ref p) H))) := by
  intro pins s σ H xs us Q I r h
  obtain ⟨p, ys, rfl, h⟩ := h
  obtain ⟨u, rfl, rx⟩ := vals1 r
  cases rx
  rcases h with ⟨hq, q⟩ | ⟨hq, q⟩
  · obtain ⟨its, r', pl, hz⟩ := I.list hq
    have hlen := r'.length
    refine call_tuple_list pl.isList (fun h' kp => ?_) (by simp only [List.size_toArray] <;> omega)
    have I1 : Inv X pins σ H { s with heap := h' } := I.kept (t' := s.toks) kp
    exact ⟨.ref h'.objs.size, _, laidN (t' := s.toks) I1 hz r' (fun b o e => Heap.get?_push_of_some _ e) (Nat.le_refl _) (Heap.get?_push_size _ rfl) rfl ⟨_, rfl⟩, rfl, q _ _ (I1.hok.fresh (Nat.le_refl _)) rfl⟩
  · obtain ⟨its, r', pl, hz⟩ := I.tuple hq
    exact call_tuple_same pl ⟨.ref p, H, I, rfl, q⟩
def rCatN (K : PySem.W.Frag) : R2 := fun x y H Q => ∃ a b xs ys, x = .ref a ∧ y = .ref b ∧ SqT K H a xs ∧ SqT K H b ys ∧ xs.length + ys.length ≤ sizeLine ∧
  (xs = [] → Q (.ref b) H) ∧ (xs ≠ [] → ys = [] → Q (.ref a) H) ∧ (xs ≠ [] → ys ≠ [] → ∀ p o, H p = none → o.dict = none → Q (.ref p) (upd H p (.frz o (.tup (xs ++ ys)))))
theorem op_catN : OpR X (binaryOp .Add) (rCatN X.K) := by
  intro pins s σ H x y v u Q I rx ry h
  obtain ⟨a, b, xs, ys, rfl, rfl, ha, hb, hz, q0, q1, q2⟩ := h
  cases rx
  cases ry
  obtain ⟨its, r1, p1, _⟩ := I.tuple ha
  obtain ⟨its2, r2, p2, _⟩ := I.tuple hb
  by_cases hx : xs = []
  · subst hx
    cases r1
    exact cat_tup0 p1 p2 ⟨.ref b, H, I, rfl, q0 rfl⟩
  · refine HT.cat_tup p1 p2 (fun z => hx (r1.nil_iff.mp z)) (fun z => ⟨.ref a, H, I, rfl, q1 hx (r2.nil_iff.mp z)⟩) (fun z => ?_) (by rw [← r1.length, ← r2.length]; exact hz)
    exact ⟨.ref s.heap.objs.size, _, laidN (t' := s.toks) I (by rw [List.length_append]; exact hz) (r1.append r2) (fun b ob q => Heap.get?_push_of_some _ q) (Nat.le_refl _) (Heap.get?_push_size _ rfl) rfl ⟨_, rfl⟩, rfl, q2 hx (fun w => z (r2.nil_iff.mpr w)) _ _ (I.hok.fresh (Nat.le_refl _)) rfl⟩
def rSlN (K : PySem.W.Frag) : V → Option Int → Option Int → Hp → VK → Prop := fun x lo hi H Q => ∃ a xs, x = .ref a ∧ SqT K H a xs ∧
  (HT.sIx xs.length 0 lo = 0 ∧ HT.sIx xs.length xs.length hi = xs.length → Q (.ref a) H) ∧ (¬ (HT.sIx xs.length 0 lo = 0 ∧ HT.sIx xs.length xs.length hi = xs.length) → ∀ p o, H p = none → o.dict = none → Q (.ref p) (upd H p (.frz o (.tup (cutV xs lo hi)))))
theorem sl_tupN : SlR X (rSlN X.K) := by
  intro pins s σ H x v vl vu lo hi sl Q I rx hs pl pu h
  obtain ⟨a, xs, rfl, hx, q1, q2⟩ := h
  cases rx
  obtain ⟨its, r, ht, hz⟩ := I.tuple hx
  have hlen : its.toArray.size = xs.length := by rw [List.size_toArray]; exact r.length.symm
  refine ⟨"tuple", _, PyProof.Rows.slot_tuple_getitem.lookup, ht.typeIs, ?_⟩
  by_cases hw : HT.sIx xs.length 0 lo = 0 ∧ HT.sIx xs.length xs.length hi = xs.length
  · exact getItem_tuple_whole ht hs pl pu (by rw [hlen]; exact hw) ⟨.ref a, H, I, rfl, q1 hw⟩
  · refine HT.getItem_tuple_cut ht hs pl pu (by rw [hlen]; exact hw) ?_ (by rw [hlen]; exact hz)
    rw [hlen]
    exact ⟨.ref s.heap.objs.size, _, laidN (t' := s.toks) I (Nat.le_trans (cutV_length xs lo hi) hz) ((r.drop (HT.sIx xs.length 0 lo)).take (HT.sIx xs.length xs.length hi - HT.sIx xs.length 0 lo)) (fun b ob q => Heap.get?_push_of_some _ q) (Nat.le_refl _) (Heap.get?_push_size _ rfl) rfl ⟨_, rfl⟩, rfl, q2 hw _ _ (I.hok.fresh (Nat.le_refl _)) rfl⟩
def tTupRgN (te : L2.St → Hp → (Int → Int → Hp → Prop) → Prop) : TE := fun σ H Q => te σ H fun a b H1 => RgOk a b ∧ ∀ q o, H1 q = none → o.dict = none → Q (.ref q) (upd H1 q (.frz o (.tup (rgV a b))))
theorem pe_tupRgN {te : L2.St → Hp → (Int → Int → Hp → Prop) → Prop} {p pos : Pos} (hc : X.calm = true) (hg : Gl X "tuple") (hm : X.mg "tuple" = none) (he : PRg X e te) (na : starEach [e] X.env = (false, eval e X.env) :: starEach [] X.env := by rfl) : PE X (.Call (.Name "tuple" p) [e] [] pos) (tTupRgN te) := by
  refine ⟨fun pins s σ H Q I h => ?_⟩
  refine Call_ (ld_blt I hg hm boot_tuple (PyProof.Rows.callWith_type1 (args_cons (thn (he pins s σ H _ I h) fun x s1 ⟨r, a, b, t, u, v, H1, ex, hr, I1, ok, q⟩ => args_nil ?_) na) na))
  subst ex
  obtain ⟨b1, b2, b3, b4, b5⟩ := ok
  refine call_tuple_range (n := (b - a).toNat) (I1.ok.hd hc) hr (small_one b1 b2 b3 b4) (rangeSize_nat a b) b5 fun h' tk acc hk hi => ?_
  have I2 : Inv X pins σ H1 { s1 with heap := h', toks := tk } := I1.kept hk
  exact ⟨.ref h'.objs.size, _, laidN (t' := tk) I2 (by rw [rgV_length, sizeLine_eq]; omega) (vals_rg hi) (fun c o e => Heap.get?_push_of_some _ e) (Nat.le_refl _) (Heap.get?_push_size _ rfl) rfl ⟨_, by simp; rfl⟩, rfl, q _ _ (I2.hok.fresh (Nat.le_refl _)) rfl⟩
/-! ### t.index(x) -/
def tTBM (K : PySem.W.Frag) (r : V → List V → Hp → VK → Prop) (to : TE) (t : TA) : TE := fun σ H Q => to σ H fun x H1 => (∃ p xs, x = .ref p ∧ SqN K H1 p xs) ∧ t σ H1 fun xs H2 => r x xs H2 Q
theorem tyN_is {p : Addr} {v : Value} (I : Inv X pins σ H s) (r : RelV (.ref p) v) (h : SqN X.K H p xs) : s.TypeIs v "tuple" ∧ ∀ a, v = .ref a → ∃ ob, s.heap.get? a = some ob ∧ ob.dict = none := by
  cases r
  rcases h with ⟨o, h, hd⟩ | ⟨_, o, h1, h2, h3⟩
  · obtain ⟨hg, hz, its, _, ht⟩ := (show ObjOk X.prog X.w H s.heap p (.frz o (.tup xs)) from I.hok p _ h)
    refine ⟨ht.typeIs, fun a e => ?_⟩
    cases e
    exact ⟨o, hg, hd⟩
  · refine ⟨⟨o, I.kIn p o h1, h2⟩, fun a e => ?_⟩
    cases e
    exact ⟨o, I.kIn _ o h1, h3⟩
variable {o : Expr} {to : TE} {name : Str} {apos cpos : Pos} {id : String} {r : V → List V → Hp → VK → Prop}
theorem pe_tbm (slot : Slot "tuple" name id) (hty : typeOf (.builtin id) = pure (.type "method_descriptor")) (hm : MtR X id r) (ho : PE X o to) (ha : PA X (e :: es) t)
    (hbase : attributeBase o name X.env (eval o X.env) = eval o X.env := by rfl)
    (hfew : ((backTo cpos (starEach (e :: es) X.env)).all (fun x => !x.1) && (backToKw cpos (keywordEach [] X.env)).all (fun x => x.1.isSome)
      && decide ((e :: es).length + ([] : List Keyword).length + (if ([] : List Keyword).isEmpty then 0 else 1) < 30)) = true := by rfl)
    (hline : (apos.endLine == cpos.line) = true := by rfl) (hs : starEach (e :: es) X.env = (false, eval e X.env) :: starEach es X.env := by rfl) (hplain : (backTo cpos (starEach es X.env)).any (·.1) = false := by rfl) :
    PE X (.Call (.Attribute o name apos) (e :: es) [] cpos) (tTBM X.K r to t) := by
  refine ⟨fun pins s σ H Q I h => ?_⟩
  refine wpAny_Call_method_late hbase hfew hline rfl (thn (ho.run pins s σ H _ I h) fun v s1 ⟨x, H1, I1, r1, ⟨p, xs, ex, ty⟩, q1⟩ => ?_)
  subst ex
  obtain ⟨h1, h2⟩ := tyN_is I1 r1 ty
  refine ⟨"tuple", id, PySem.F.plainAttrs_tuple, slot, hty, h1, h2, ?_⟩
  have hA := ha.run cpos pins s1 σ H1 _ I1 q1
  rw [hs] at hA ⊢
  refine Calls.callWith_builtin (by show (false || (backTo cpos (starEach es X.env)).any (·.1)) = false; rw [hplain] <;> rfl) (Calls.evalArgs_plain ?_)
  exact thn hA fun us s2 ⟨vs, H2, I2, r2, q2⟩ => hm pins s2 σ H2 _ vs v us Q I2 r1 r2 q2
end
def ndB (K : PySem.W.Frag) (a : Addr) : Bool := match K.lookup a with
  | some ⟨.type c, none, _, _⟩ => decide (c = "tuple")
  | _ => false
theorem known_ok {K : PySem.W.Frag} {H : Hp} {a : Addr} {xs : List V} (h : ndB K a = true) (h2 : SqT K (fun _ => none) a xs) : SqN K H a xs := by
  unfold ndB at h
  split at h
  · rename_i c _ _ hk
    exact SqN.known h2 hk (by rw [of_decide_eq_true h]) rfl
  · cases h
end Tn

/-! Data over the layer: values that stand for data (Rp), worlds (Wd), what an expression's reading gives as data (ED). -/
namespace Dx
open PySem L2

theorem sz_of {n : Nat} (h : n ≤ 100000) : n ≤ sizeLine := Nat.le_trans h (by decide)
theorem sz_lt {n : Nat} (h : n < 100000) : n < sizeLine := Nat.lt_of_lt_of_le h (by decide)

/-! ### values that stand for data; lists among them lie where N says -/
mutual
inductive Rp (K : PySem.W.Frag) (N : Addr → Prop) (H : Hp) : V → PyData → Prop
  | non : Rp K N H .non .none
  | bl (b : Bool) : Rp K N H (.bl b) (.bool b)
  | int (i : Int) : Rp K N H (.int i) (.int i)
  | str (x : Str) : Rp K N H (.str x) (.str x)
  | lst {a : Addr} {xs : List V} {ds : List PyData} : N a → H a = some (.lst xs) → RpAll K N H xs ds → Rp K N H (.ref a) (.list ds)
  | tup {a : Addr} {xs : List V} {ds : List PyData} : Tn.SqN K H a xs → RpAll K N H xs ds → Rp K N H (.ref a) (.tuple ds)
  | dic {a : Addr} {ks : List Str} {xs : List V} {ds : List PyData} {kvs : List (PyData × PyData)} : N a → H a = some (.dK ((ks.zip xs).map fun p => ((Sum.inr p.1 : Key), p.2))) → RpAll K N H xs ds → ks.length = xs.length → kvs = ((ks.zip ds).map fun p => (PyData.str p.1, p.2)) → Rp K N H (.ref a) (.dict kvs)
  /-- an object of an own class that nobody changes any more -/
  | obj {a C dx : Addr} {ks : List Str} {xs : List V} {ds : List PyData} {kvs : List (PyData × PyData)} : N a → H a = some (.ins C dx (ks.zip xs)) → RpAll K N H xs ds → ks.length = xs.length → kvs = ((PyData.none, PyData.int (C : Nat)) :: (ks.zip ds).map fun p => (PyData.str p.1, p.2)) → Rp K N H (.ref a) (.dict kvs)
inductive RpAll (K : PySem.W.Frag) (N : Addr → Prop) (H : Hp) : List V → List PyData → Prop
  | nil : RpAll K N H [] []
  | cons {v : V} {vs : List V} {d : PyData} {ds : List PyData} : Rp K N H v d → RpAll K N H vs ds → RpAll K N H (v :: vs) (d :: ds)
end
/-- all that lies where M says stands, tuples and known things too -/
structure Kp (M : Addr → Prop) (H H' : Hp) : Prop where
  at_ : ∀ a o, M a → H a = some o → H' a = some o
  tup : ∀ a xs, H a = some (.tup xs) → H' a = some (.tup xs)
  frz : ∀ a o u, H a = some (.frz o u) → H' a = some (.frz o u)
  free : ∀ a, H' a = none → H a = none
theorem Kp.refl {M : Addr → Prop} {H : Hp} : Kp M H H := ⟨fun _ _ _ h => h, fun _ _ h => h, fun _ _ _ h => h, fun _ h => h⟩
theorem Kp.trans {M : Addr → Prop} {H H1 H2 : Hp} (a : Kp M H H1) (b : Kp M H1 H2) : Kp M H H2 := ⟨fun c o m h => b.at_ c o m (a.at_ c o m h), fun c o h => b.tup c o (a.tup c o h), fun c o u h => b.frz c o u (a.frz c o u h), fun c h => a.free c (b.free c h)⟩
theorem Kp.of {M : Addr → Prop} {H H' : Hp} (e : Same H H') : Kp M H H' := ⟨fun a o _ h => e a o h, fun a o h => e a _ h, fun a o u h => e a _ h, fun a h => e.free h⟩
theorem Kp.sqN {M : Addr → Prop} {K : PySem.W.Frag} {H H' : Hp} {a : Addr} {xs : List V} (e : Kp M H H') (h : Tn.SqN K H a xs) : Tn.SqN K H' a xs := by
  rcases h with ⟨o, h, hd⟩ | h
  · exact .inl ⟨o, e.frz _ _ _ h, hd⟩
  · exact .inr h
theorem Kp.sqT {M : Addr → Prop} {K : PySem.W.Frag} {H H' : Hp} {a : Addr} {xs : List V} (e : Kp M H H') (h : SqT K H a xs) : SqT K H' a xs := by
  rcases h with (h | ⟨o, h⟩) | h
  · exact .inl (.inl (e.tup _ _ h))
  · exact .inl (.inr ⟨o, e.frz _ _ _ h⟩)
  · exact .inr h
section
variable {K : PySem.W.Frag} {N M : Addr → Prop} {H H' : Hp}
mutual
theorem Rp.up (s : ∀ a, N a → M a) (e : Kp M H H') : ∀ {d : PyData} {v : V}, Rp K N H v d → Rp K N H' v d
  | _, _, .non => .non
  | _, _, .bl b => .bl b
  | _, _, .int i => .int i
  | _, _, .str x => .str x
  | _, _, .lst n h r => .lst n (e.at_ _ _ (s _ n) h) (RpAll.up s e r)
  | _, _, .tup h r => .tup (e.sqN h) (RpAll.up s e r)
  | _, _, .dic n h r l z => .dic n (e.at_ _ _ (s _ n) h) (RpAll.up s e r) l z
  | _, _, .obj n h r l z => .obj n (e.at_ _ _ (s _ n) h) (RpAll.up s e r) l z
theorem RpAll.up (s : ∀ a, N a → M a) (e : Kp M H H') : ∀ {ds : List PyData} {vs : List V}, RpAll K N H vs ds → RpAll K N H' vs ds
  | _, _, .nil => .nil
  | _, _, .cons h r => .cons (Rp.up s e h) (RpAll.up s e r)
end
mutual
theorem Rp.dp : ∀ {d : PyData} {v : V}, d.canLay0 = true → Rp K N H v d → Dp K H v d
  | _, _, _, .non => .non
  | _, _, _, .bl b => .bl b
  | _, _, _, .int i => .int i
  | _, _, _, .str x => .str x
  | _, _, c, .lst n h r => .lst (SqL.of h) (RpAll.dp (by simpa only [PyData.canLay0] using c) r)
  | _, _, c, .tup h r => .tup h.t (RpAll.dp (by simpa only [PyData.canLay0] using c) r)
  | _, _, c, .dic _ _ _ _ _ => by simp [PyData.canLay0] at c
  | _, _, c, .obj _ _ _ _ _ => by simp [PyData.canLay0] at c
theorem RpAll.dp : ∀ {ds : List PyData} {vs : List V}, PyData.canLayAll0 ds = true → RpAll K N H vs ds → DpAll K H vs ds
  | _, _, _, .nil => .nil
  | _, _, c, .cons h r => by
    simp only [PyData.canLayAll0, Bool.and_eq_true] at c
    exact .cons (Rp.dp c.1 h) (RpAll.dp c.2 r)
end
theorem RpAll.length : ∀ {ds : List PyData} {vs : List V}, RpAll K N H vs ds → vs.length = ds.length
  | _, _, .nil => rfl
  | _, _, .cons _ r => congrArg (· + 1) (RpAll.length r)
theorem RpAll.get : ∀ {ds : List PyData} {vs : List V} {i : Nat} {v : V}, RpAll K N H vs ds → vs[i]? = some v → ∃ d, ds[i]? = some d ∧ Rp K N H v d
  | _, _, _, _, .nil, e => by simp at e
  | _, _, 0, _, .cons h _, e => by
    have e' := Option.some.inj e
    subst e'
    exact ⟨_, rfl, h⟩
  | _, _, i + 1, _, .cons _ r, e => RpAll.get (i := i) r e
theorem RpAll.got : ∀ {ds : List PyData} {vs : List V} {i : Nat} {d : PyData}, RpAll K N H vs ds → ds[i]? = some d → ∃ v, vs[i]? = some v ∧ Rp K N H v d
  | _, _, _, _, .nil, e => by simp at e
  | _, _, 0, _, .cons h _, e => by
    have e' := Option.some.inj e
    subst e'
    exact ⟨_, rfl, h⟩
  | _, _, i + 1, _, .cons _ r, e => RpAll.got (i := i) r e
theorem RpAll.app : ∀ {ds es : List PyData} {vs us : List V}, RpAll K N H vs ds → RpAll K N H us es → RpAll K N H (vs ++ us) (ds ++ es)
  | _, _, _, _, .nil, s => s
  | _, _, _, _, .cons h r, s => .cons h (RpAll.app r s)
theorem RpAll.take : ∀ {ds : List PyData} {vs : List V} (n : Nat), RpAll K N H vs ds → RpAll K N H (vs.take n) (ds.take n)
  | _, _, 0, _ => .nil
  | _, _, _ + 1, .nil => .nil
  | _, _, n + 1, .cons h r => .cons h (RpAll.take n r)
theorem RpAll.drop : ∀ {ds : List PyData} {vs : List V} (n : Nat), RpAll K N H vs ds → RpAll K N H (vs.drop n) (ds.drop n)
  | _, _, 0, r => r
  | _, _, _ + 1, .nil => .nil
  | _, _, n + 1, .cons _ r => RpAll.drop n r
theorem RpAll.rev : ∀ {ds : List PyData} {vs : List V}, RpAll K N H vs ds → RpAll K N H vs.reverse ds.reverse
  | _, _, .nil => .nil
  | _, _, .cons h r => by
    rw [List.reverse_cons, List.reverse_cons]
    exact (RpAll.rev r).app (.cons h .nil)
theorem RpAll.set : ∀ {ds : List PyData} {vs : List V} {v : V} {d : PyData} (i : Nat), Rp K N H v d → RpAll K N H vs ds → RpAll K N H (vs.set i v) (ds.set i d)
  | _, _, _, _, _, _, .nil => .nil
  | _, _, _, _, 0, h, .cons _ r => .cons h r
  | _, _, _, _, i + 1, h, .cons q r => .cons q (RpAll.set i h r)
theorem Rp.int_eq {v : V} {i : Int} (h : Rp K N H v (.int i)) : v = .int i := by cases h; rfl
theorem Rp.str_eq {v : V} {x : Str} (h : Rp K N H v (.str x)) : v = .str x := by cases h; rfl
theorem Rp.bl_eq {v : V} {b : Bool} (h : Rp K N H v (.bool b)) : v = .bl b := by cases h; rfl
theorem Rp.non_eq {v : V} (h : Rp K N H v .none) : v = .non := by cases h; rfl
theorem Rp.tup_of {v : V} {ds : List PyData} (h : Rp K N H v (.tuple ds)) : ∃ a xs, v = .ref a ∧ SqT K H a xs ∧ RpAll K N H xs ds := by
  cases h with
  | tup h r => exact ⟨_, _, rfl, h.t, r⟩
theorem Rp.tup_ofN {v : V} {ds : List PyData} (h : Rp K N H v (.tuple ds)) : ∃ a xs, v = .ref a ∧ Tn.SqN K H a xs ∧ RpAll K N H xs ds := by
  cases h with
  | tup h r => exact ⟨_, _, rfl, h, r⟩
theorem Rp.lst_of {v : V} {ds : List PyData} (h : Rp K N H v (.list ds)) : ∃ a xs, v = .ref a ∧ N a ∧ H a = some (.lst xs) ∧ RpAll K N H xs ds := by
  cases h with
  | lst n h r => exact ⟨_, _, rfl, n, h, r⟩
/-- the type's name of data -/
def tyD : PyData → String
  | .none => "NoneType" | .bool _ => "bool" | .int _ => "int" | .str _ => "str" | .list _ => "list" | .tuple _ => "tuple" | .dict _ => "dict"
/-- an object of an own class -/
def isOb : PyData → Bool
  | .dict ((.none, _) :: _) => true
  | _ => false
theorem Rp.ty {v : V} {d : PyData} (h : Rp K N H v d) (ho : isOb d = false) : TyX K H v (.type (tyD d)) := by
  cases h with
  | non => exact .base .non
  | bl b => exact .base (.bl b)
  | int i => exact .base (.int i)
  | str x => exact .base (.str x)
  | lst n h r => exact .base (.lst h)
  | tup h r =>
    rcases h.t with (h | ⟨o, h⟩) | ⟨o, its, n, h1, h2, _⟩
    · exact .base (.tup h)
    · exact .fTuple h
    · exact .kTuple h1 h2
  | dic n h r l z => exact .base (.dK h)
  | obj n h r l z => subst z; cases ho
end

/-! ### worlds: what may be changed by calls (not M), where lists of data lie (N), what holds of all heaps (Z) -/
structure Wd where
  M : Addr → Prop
  N : Addr → Prop
  Z : Hp → Prop
  sub : ∀ a, N a → M a
  zx : ∀ H H', Z H → Same H H' → Z H'
  nf : ∀ H p, Z H → H p = none → N p
  zu : ∀ H l xs ys, Z H → M l → H l = some (.lst xs) → Z (upd H l (.lst ys))
/-- from H to H' -/
structure Le (W : Wd) (H H' : Hp) : Prop where
  kp : Kp W.M H H'
  z : W.Z H'
section
variable {W : Wd} {K : PySem.W.Frag} {H H' H0 H1 H2 : Hp} {v : V} {d : PyData} {vs : List V} {ds : List PyData}
theorem Le.refl (z : W.Z H) : Le W H H := ⟨.refl, z⟩
theorem Le.trans (a : Le W H H1) (b : Le W H1 H2) : Le W H H2 := ⟨a.kp.trans b.kp, b.z⟩
theorem Le.of (z : W.Z H) (e : Same H H') : Le W H H' := ⟨.of e, W.zx _ _ z e⟩
theorem Le.up (e : Le W H H') (h : Rp K W.N H v d) : Rp K W.N H' v d := h.up W.sub e.kp
theorem Le.ups (e : Le W H H') (h : RpAll K W.N H vs ds) : RpAll K W.N H' vs ds := h.up W.sub e.kp
theorem same_new {p : Addr} {o : HO} (h : H p = none) : Same H (upd H p o) := fun b u q => by rw [upd_ne (ne_of_none q h)]; exact q
theorem Le.new (z : W.Z H) {p : Addr} {o : HO} (h : H p = none) : Le W H (upd H p o) := .of z (same_new h)
/-- a list that was not there at the entry is changed -/
theorem Le.mut (e : Le W H0 H) {l : Addr} {xs ys : List V} (n : H0 l = none) (m : W.M l) (h : H l = some (.lst xs)) : Le W H0 (upd H l (.lst ys)) := by
  refine ⟨⟨fun a o ma q => ?_, fun a o q => ?_, fun a o u q => ?_, fun a q => ?_⟩, W.zu _ _ _ _ e.z m h⟩
  · rw [upd_ne (ne_of_none q n)]
    exact e.kp.at_ _ _ ma q
  · rw [upd_ne (ne_of_none q n)]
    exact e.kp.tup _ _ q
  · rw [upd_ne (ne_of_none q n)]
    exact e.kp.frz _ _ _ q
  · refine e.kp.free a ?_
    by_cases ha : a = l
    · subst ha
      rw [upd_same] at q
      cases q
    · rw [upd_ne ha] at q
      exact q
end
/-! data without lists -/
mutual
def noL : PyData → Bool
  | .tuple xs => noLs xs
  | .list _ => false
  | .dict _ => false
  | _ => true
def noLs : List PyData → Bool
  | [] => true
  | x :: xs => noL x && noLs xs
end
section
variable {K : PySem.W.Frag} {N : Addr → Prop} {H : Hp} {l : Addr} {xs : List V} {o : HO}
theorem sqN_upd {a : Addr} {ys : List V} (hl : H l = some (.lst xs)) (h : Tn.SqN K H a ys) : Tn.SqN K (upd H l o) a ys := by
  rcases h with ⟨q, h, hd⟩ | h
  · refine .inl ⟨q, ?_, hd⟩
    rw [upd_ne (ne_of h hl (by intro z; cases z))]
    exact h
  · exact .inr h
theorem sqT_upd {a : Addr} {ys : List V} (hl : H l = some (.lst xs)) (h : SqT K H a ys) : SqT K (upd H l o) a ys := by
  rcases h with (h | ⟨q, h⟩) | h
  · refine .inl (.inl ?_)
    rw [upd_ne (ne_of h hl (by intro z; cases z))]
    exact h
  · refine .inl (.inr ⟨q, ?_⟩)
    rw [upd_ne (ne_of h hl (by intro z; cases z))]
    exact h
  · exact .inr h
mutual
theorem Rp.upd (hl : H l = some (.lst xs)) : ∀ {d : PyData} {v : V}, noL d = true → Rp K N H v d → Rp K N (upd H l o) v d
  | _, _, _, .non => .non
  | _, _, _, .bl b => .bl b
  | _, _, _, .int i => .int i
  | _, _, _, .str x => .str x
  | _, _, n, .lst _ h r => by cases n
  | _, _, n, .tup h r => .tup (sqN_upd hl h) (RpAll.upd hl n r)
theorem RpAll.upd (hl : H l = some (.lst xs)) : ∀ {ds : List PyData} {vs : List V}, noLs ds = true → RpAll K N H vs ds → RpAll K N (upd H l o) vs ds
  | _, _, _, .nil => .nil
  | _, _, n, .cons h r => by
    obtain ⟨n1, n2⟩ := Bool.and_eq_true_iff.mp n
    exact .cons (Rp.upd hl n1 h) (RpAll.upd hl n2 r)
end
/-- data that stood ahead of a new list stands behind its change -/
theorem Rp.mut {M : Addr → Prop} {H0 : Hp} (s : ∀ a, N a → M a) (n : H0 l = none) (e : Kp M H0 H) {d : PyData} {v : V} (h : Rp K N H0 v d) : Rp K N (L2.upd H l o) v d := by
  refine Rp.up (M := M) s (H' := L2.upd H l o) (H := H0) (Kp.mk (fun a u m q => ?_) (fun a u q => ?_) (fun a u w q => ?_) fun a q => ?_) h
  · rw [upd_ne (ne_of_none q n)]
    exact e.at_ _ _ m q
  · rw [upd_ne (ne_of_none q n)]
    exact e.tup _ _ q
  · rw [upd_ne (ne_of_none q n)]
    exact e.frz _ _ _ q
  · refine e.free a ?_
    by_cases ha : a = l
    · subst ha
      rw [upd_same] at q
      cases q
    · rw [upd_ne ha] at q
      exact q
end

/-! ### what a reading gives -/
inductive Ar where
  | v (u : V)
  | d (x : PyData)
def Ra (K : PySem.W.Frag) (N : Addr → Prop) (H : Hp) (v : V) : Ar → Prop
  | .v u => v = u
  | .d x => Rp K N H v x
inductive Ras (K : PySem.W.Frag) (N : Addr → Prop) (H : Hp) : List V → List Ar → Prop
  | nil : Ras K N H [] []
  | cons {v : V} {vs : List V} {a : Ar} {as : List Ar} : Ra K N H v a → Ras K N H vs as → Ras K N H (v :: vs) (a :: as)
theorem Le.ra {W : Wd} {K : PySem.W.Frag} {H H' : Hp} {v : V} (e : Le W H H') : ∀ {a : Ar}, Ra K W.N H v a → Ra K W.N H' v a
  | .v _, h => h
  | .d _, h => e.up h
theorem ras_d {K : PySem.W.Frag} {N : Addr → Prop} {H : Hp} : ∀ {ds : List PyData} {vs : List V}, Ras K N H vs (ds.map .d) → RpAll K N H vs ds
  | [], _, h => by cases h; exact .nil
  | d :: ds, _, h => by
    cases h with
    | cons h r => exact .cons h (ras_d r)
theorem Ras.i1 {K : PySem.W.Frag} {N : Addr → Prop} {H : Hp} {vs : List V} {a : Ar} (h : Ras K N H vs [a]) : ∃ x, vs = [x] ∧ Ra K N H x a := by
  cases h with
  | cons h r => cases r; exact ⟨_, rfl, h⟩
theorem Ras.i2 {K : PySem.W.Frag} {N : Addr → Prop} {H : Hp} {vs : List V} {a b : Ar} (h : Ras K N H vs [a, b]) : ∃ x y, vs = [x, y] ∧ Ra K N H x a ∧ Ra K N H y b := by
  cases h with
  | cons h r =>
    obtain ⟨y, rfl, h2⟩ := r.i1
    exact ⟨_, _, rfl, h, h2⟩
theorem Ras.i3 {K : PySem.W.Frag} {N : Addr → Prop} {H : Hp} {vs : List V} {a b c : Ar} (h : Ras K N H vs [a, b, c]) : ∃ x y z, vs = [x, y, z] ∧ Ra K N H x a ∧ Ra K N H y b ∧ Ra K N H z c := by
  cases h with
  | cons h r =>
    obtain ⟨y, z, rfl, h2⟩ := r.i2
    exact ⟨_, _, _, rfl, h, h2⟩
section
variable (K : PySem.W.Frag) (W : Wd)
/-- an expression gives something of which P holds -/
def EP (te : TE) (σ : L2.St) (H : Hp) (P : V → Hp → Prop) : Prop := ∀ H1, Le W H H1 → ∀ Q : VK, (∀ v H2, Le W H1 H2 → P v H2 → Q v H2) → te σ H1 Q
/-- .. gives the value v -/
abbrev EV (te : TE) (σ : L2.St) (H : Hp) (v : V) : Prop := EP W te σ H fun u _ => u = v
/-- .. gives the data d -/
abbrev ED (te : TE) (σ : L2.St) (H : Hp) (d : PyData) : Prop := EP W te σ H fun u H2 => Rp K W.N H2 u d
/-- a test gives b -/
def ET (tt : TT) (σ : L2.St) (H : Hp) (b : Bool) : Prop := ∀ H1, Le W H H1 → ∀ Q : Bool → Hp → Prop, (∀ H2, Le W H1 H2 → Q b H2) → tt σ H1 Q
/-- arguments: values and data -/
def EA (ta : TA) (σ : L2.St) (H : Hp) (as : List Ar) : Prop := ∀ H1, Le W H H1 → ∀ Q : List V → Hp → Prop, (∀ vs H2, Le W H1 H2 → Ras K W.N H2 vs as → Q vs H2) → ta σ H1 Q
/-- a new list of data -/
abbrev EL (te : TE) (σ : L2.St) (H : Hp) (ds : List PyData) : Prop := EP W te σ H fun u H2 => ∃ p xs, u = .ref p ∧ H p = none ∧ H2 p = some (.lst xs) ∧ RpAll K W.N H2 xs ds
def EO (to : TO) (σ : L2.St) (H : Hp) (o : Option Int) : Prop := ∀ H1, Le W H H1 → ∀ Q : Option Int → Hp → Prop, (∀ H2, Le W H1 H2 → Q o H2) → to σ H1 Q
end
section
variable {K : PySem.W.Frag} {W : Wd} {σ : L2.St} {H H' : Hp} {ta tb te : TE} {t u : TT} {v : V} {d e : PyData} {ds : List PyData} {i : Nat} {n m : Int} {D : Ends} {tz tw tu : TS} {P : V → Hp → Prop} {b c : Bool}
theorem EP.up (e : Le W H H') (h : EP W te σ H P) : EP W te σ H' P := fun H1 a Q q => h H1 (e.trans a) Q q
theorem ET.up (e : Le W H H') (h : ET W t σ H b) : ET W t σ H' b := fun H1 a Q q => h H1 (e.trans a) Q q
theorem EP.imp {P' : V → Hp → Prop} (h : EP W te σ H P) (q : ∀ v H2, Le W H H2 → P v H2 → P' v H2) : EP W te σ H P' := fun H1 a Q k => h H1 a Q fun v H2 a2 p => k v H2 a2 (q v H2 (a.trans a2) p)
theorem ev_d (h : EV W te σ H v) (r : Rp K W.N H v d) : ED K W te σ H d := EP.imp h fun u H2 e q => by subst q; exact e.up r
theorem toI (h : ED K W te σ H (.int n)) : EV W te σ H (.int n) := EP.imp h fun u H2 e q => q.int_eq
theorem toS {x : Str} (h : ED K W te σ H (.str x)) : EV W te σ H (.str x) := EP.imp h fun u H2 e q => q.str_eq
theorem toB (h : ED K W te σ H (.bool b)) : EV W te σ H (.bl b) := EP.imp h fun u H2 e q => q.bl_eq
theorem ofI (h : EV W te σ H (.int n)) : ED K W te σ H (.int n) := ev_d h (.int n)
theorem ofS {x : Str} (h : EV W te σ H (.str x)) : ED K W te σ H (.str x) := ev_d h (.str x)
theorem ofB (h : EV W te σ H (.bl b)) : ED K W te σ H (.bool b) := ev_d h (.bl b)
theorem ev_var (h : σ[i]? = some (some v)) : EV W (tVar i) σ H v := fun H1 a Q q => ⟨v, h, q v H1 (.refl a.z) rfl⟩
theorem ed_var (h : σ[i]? = some (some v)) (r : Rp K W.N H v d) : ED K W (tVar i) σ H d := ev_d (ev_var h) r
theorem ev_c : EV W (tC v) σ H v := fun H1 a Q q => q v H1 (.refl a.z) rfl
theorem ed_c (r : Rp K W.N H v d) : ED K W (tC v) σ H d := ev_d ev_c r
theorem ed_int : ED K W (tC (.int n)) σ H (.int n) := ed_c (.int n)
theorem ed_str {x : Str} : ED K W (tC (.str x)) σ H (.str x) := ed_c (.str x)
theorem ed_bl : ED K W (tC (.bl b)) σ H (.bool b) := ed_c (.bl b)
theorem ed_non : ED K W (tC .non) σ H .none := ed_c .non
/-- two scalars and an operator -/
theorem ev_op {r : R2} {x y z : V} (ha : EV W ta σ H x) (hb : EV W tb σ H y) (hr : ∀ H1 (Q : VK), Le W H H1 → Q z H1 → r x y H1 Q) : EV W (tOp r ta tb) σ H z := fun H1 a Q q =>
  ha H1 a _ fun x' H2 a2 e2 => hb H2 (a.trans a2) _ fun y' H3 a3 e3 => by
    subst e2 e3
    exact hr H3 Q ((a.trans a2).trans a3) (q z H3 (a2.trans a3) rfl)
theorem ed_I0 {g : Int → Int → Int} (ha : ED K W ta σ H (.int n)) (hb : ED K W tb σ H (.int m)) : ED K W (tOp (rI0 fun i j => .int (g i j)) ta tb) σ H (.int (g n m)) :=
  ofI (ev_op (toI ha) (toI hb) fun H1 Q _ q => ⟨n, m, rfl, rfl, q⟩)
theorem ed_I {C : Int → Int → Prop} {g : Int → Int → Int} (ha : ED K W ta σ H (.int n)) (hb : ED K W tb σ H (.int m)) (hc : C n m) : ED K W (tOp (rI C fun i j => .int (g i j)) ta tb) σ H (.int (g n m)) :=
  ofI (ev_op (toI ha) (toI hb) fun H1 Q _ q => ⟨n, m, rfl, rfl, hc, q⟩)
theorem ed_B0 {g : Int → Int → Bool} (ha : ED K W ta σ H (.int n)) (hb : ED K W tb σ H (.int m)) : ED K W (tOp (rI0 fun i j => .bl (g i j)) ta tb) σ H (.bool (g n m)) :=
  ofB (ev_op (toI ha) (toI hb) fun H1 Q _ q => ⟨n, m, rfl, rfl, q⟩)
theorem ed_un {g : Int → V} {z : V} (ha : ED K W ta σ H (.int n)) (hg : g n = z) (r : Rp K W.N H z d) : ED K W (tUn (rU g) ta) σ H d := fun H1 a Q q =>
  toI ha H1 a _ fun x H2 a2 e2 => by
    subst e2 hg
    exact ⟨n, rfl, q _ H2 a2 ((a.trans a2).up r)⟩
theorem ed_neg (ha : ED K W ta σ H (.int n)) : ED K W (tUn (rU fun i => .int (-i)) ta) σ H (.int (-n)) := ed_un ha rfl (.int _)
/-- texts put together -/
theorem ed_cats {x y : Str} (ha : ED K W ta σ H (.str x)) (hb : ED K W tb σ H (.str y)) (hz : x.length + y.length ≤ 100000) :
    ED K W (tOp (fun x y H Q => ∃ i j, x = .str i ∧ y = .str j ∧ i.length + j.length ≤ sizeLine ∧ Q (.str (i ++ j)) H) ta tb) σ H (.str (x ++ y)) :=
  ofS (ev_op (toS ha) (toS hb) fun H1 Q _ q => ⟨x, y, rfl, rfl, sz_of hz, q⟩)
/-- == and != of scalars -/
theorem ed_eqS {x y : V} (ha : EV W ta σ H x) (hb : EV W tb σ H y) (h : scal x y = true) : ED K W (tOp rEq ta tb) σ H (.bool (decide (x = y))) := ofB (ev_op ha hb fun H1 Q _ q => ⟨h, q⟩)
theorem ed_neS {x y : V} (ha : EV W ta σ H x) (hb : EV W tb σ H y) (h : scal x y = true) : ED K W (tOp rNe ta tb) σ H (.bool (!decide (x = y))) := ofB (ev_op ha hb fun H1 Q _ q => ⟨h, q⟩)
/-- == and != of data -/
theorem ed_eqD (ha : ED K W ta σ H d) (hb : ED K W tb σ H e) (h1 : SeqAt.shaped d = true) (h2 : SeqAt.shaped e = true) : ED K W (tOp (rEqD K) ta tb) σ H (.bool (PyData.eqv d e)) := fun H1 a Q q =>
  ha H1 a _ fun x H2 a2 e2 => hb H2 (a.trans a2) _ fun y H3 a3 e3 => ⟨d, e, (a3.up e2).dp (SeqAt.canLay_of_shaped h1), e3.dp (SeqAt.canLay_of_shaped h2), h1, h2, q _ H3 (a2.trans a3) (.bl _)⟩
theorem ed_neD (ha : ED K W ta σ H d) (hb : ED K W tb σ H e) (h1 : SeqAt.shaped d = true) (h2 : SeqAt.shaped e = true) : ED K W (tOp (rNeD K) ta tb) σ H (.bool (!PyData.eqv d e)) := fun H1 a Q q =>
  ha H1 a _ fun x H2 a2 e2 => hb H2 (a.trans a2) _ fun y H3 a3 e3 => ⟨d, e, (a3.up e2).dp (SeqAt.canLay_of_shaped h1), e3.dp (SeqAt.canLay_of_shaped h2), h1, h2, q _ H3 (a2.trans a3) (.bl _)⟩
/-- items -/
theorem atI_map {xs : List V} {n : Int} (h : atI ds n = some d) (r : RpAll K W.N H xs ds) : ∃ x, atI xs n = some x ∧ Rp K W.N H x d := by
  unfold atI at h ⊢
  rw [r.length]
  cases hx : ixN ds.length n with
  | none => rw [hx] at h; cases h
  | some j =>
    rw [hx] at h
    obtain ⟨x, e1, e2⟩ := r.got h
    exact ⟨x, e1, e2⟩
theorem ed_ixT (ha : ED K W ta σ H (.tuple ds)) (hb : ED K W tb σ H (.int n)) (h : atI ds n = some d) : ED K W (tOp (rIxT K) ta tb) σ H d := fun H1 a Q q =>
  ha H1 a _ fun x H2 a2 e2 => toI hb H2 (a.trans a2) _ fun y H3 a3 e3 => by
    subst e3
    obtain ⟨p, xs, rfl, h1, h2⟩ := (a3.up e2).tup_of
    obtain ⟨x, e4, e5⟩ := atI_map h h2
    exact ⟨p, xs, n, x, rfl, rfl, h1, e4, q x H3 (a2.trans a3) e5⟩
theorem ed_ixL (ha : ED K W ta σ H (.list ds)) (hb : ED K W tb σ H (.int n)) (h : atI ds n = some d) : ED K W (tOp (rIxL K) ta tb) σ H d := fun H1 a Q q =>
  ha H1 a _ fun x H2 a2 e2 => toI hb H2 (a.trans a2) _ fun y H3 a3 e3 => by
    subst e3
    obtain ⟨p, xs, rfl, _, h1, h2⟩ := (a3.up e2).lst_of
    obtain ⟨x, e4, e5⟩ := atI_map h h2
    exact ⟨p, xs, n, x, rfl, rfl, SqL.of h1, e4, q x H3 (a2.trans a3) e5⟩
theorem ed_ixS {x : Str} {c : Nat} (ha : ED K W ta σ H (.str x)) (hb : ED K W tb σ H (.int n)) (hz : x.length ≤ 100000) (h : atI x.cps.toList n = some c) : ED K W (tOp rIxS ta tb) σ H (.str ⟨#[c]⟩) :=
  ofS (ev_op (toS ha) (toI hb) fun H1 Q _ q => ⟨x, n, c, rfl, rfl, sz_of hz, h, q⟩)
/-! arguments -/
theorem ea_nil : EA K W tNil σ H [] := fun H1 a Q q => q [] H1 (.refl a.z) .nil
theorem ea_v {tr : TA} {as : List Ar} (h : EV W te σ H v) (hr : EA K W tr σ H as) : EA K W (tCons te tr) σ H (.v v :: as) := fun H1 a Q q =>
  h H1 a _ fun u H2 a2 e2 => by
    subst e2
    exact hr H2 (a.trans a2) _ fun vs H3 a3 r => q _ H3 (a2.trans a3) (.cons rfl r)
theorem ea_d {tr : TA} {as : List Ar} (h : ED K W te σ H d) (hr : EA K W tr σ H as) : EA K W (tCons te tr) σ H (.d d :: as) := fun H1 a Q q =>
  h H1 a _ fun u H2 a2 e2 => hr H2 (a.trans a2) _ fun vs H3 a3 r => q _ H3 (a2.trans a3) (.cons (a3.up e2) r)
/-- displays -/
theorem el_lst {ta : TA} (h : EA K W ta σ H (ds.map .d)) (hz : ds.length ≤ 100000) : EL K W (tLst ta) σ H ds := fun H1 a Q q =>
  h H1 a _ fun vs H2 a2 r => ⟨by rw [(ras_d r).length]; exact sz_of hz, fun p hp => q _ _ (a2.trans (.new a2.z hp)) ⟨p, vs, rfl, (a.trans a2).kp.free _ hp, upd_same, (Le.new a2.z hp).ups (ras_d r)⟩⟩
theorem el_d (z : W.Z H) (h : EL K W te σ H ds) : ED K W te σ H (.list ds) := EP.imp h fun u H2 _ q => by
  obtain ⟨p, xs, rfl, h1, h2, h3⟩ := q
  exact .lst (W.nf _ _ z h1) h2 h3
/-- built-in calls -/
theorem ep_cb {r : List V → Hp → VK → Prop} {ta : TA} {as : List Ar} (h : EA K W ta σ H as) (hr : ∀ vs H1 (Q : VK), Le W H H1 → Ras K W.N H1 vs as → (∀ v H2, Le W H1 H2 → P v H2 → Q v H2) → r vs H1 Q) : EP W (tCB r ta) σ H P := fun H1 a Q q =>
  h H1 a _ fun vs H2 a2 r2 => hr vs H2 Q (a.trans a2) r2 fun v H3 a3 p => q v H3 (a2.trans a3) p
theorem ed_lenT (h : ED K W te σ H (.tuple ds)) (hz : ds.length ≤ 100000) : ED K W (tCB (fun xs H Q => ∃ x n, xs = [x] ∧ LenV K x H n ∧ Q (.int n) H) (tCons te tNil)) σ H (.int ds.length) :=
  ep_cb (ea_d h ea_nil) fun vs H1 Q a r q => by
    obtain ⟨x, rfl, hx⟩ := r.i1
    obtain ⟨p, xs, rfl, h1, h2⟩ := Rp.tup_of hx
    exact ⟨_, xs.length, rfl, .inr ⟨xs, h1, rfl⟩, q _ H1 (.refl a.z) (by rw [h2.length]; exact .int _)⟩
theorem ed_lenL (h : ED K W te σ H (.list ds)) : ED K W (tCB (fun xs H Q => ∃ x n, xs = [x] ∧ LenV K x H n ∧ Q (.int n) H) (tCons te tNil)) σ H (.int ds.length) :=
  ep_cb (ea_d h ea_nil) fun vs H1 Q a r q => by
    obtain ⟨x, rfl, hx⟩ := r.i1
    obtain ⟨p, xs, rfl, _, h1, h2⟩ := Rp.lst_of hx
    exact ⟨_, xs.length, rfl, .inl ⟨xs, SqL.of h1, rfl⟩, q _ H1 (.refl a.z) (by rw [h2.length]; exact .int _)⟩
theorem ed_lenS {x : Str} (h : ED K W te σ H (.str x)) (hz : x.length ≤ 100000) : ED K W (tCB (fun xs H Q => ∃ x n, xs = [x] ∧ LenV K x H n ∧ Q (.int n) H) (tCons te tNil)) σ H (.int x.length) :=
  ep_cb (ea_d h ea_nil) fun vs H1 Q a r q => by
    obtain ⟨x, rfl, hx⟩ := r.i1
    cases hx
    exact ⟨_, _, rfl, ⟨sz_of hz, rfl⟩, q _ H1 (.refl a.z) (.int _)⟩
/-- the length of a list at hand -/
theorem ed_lenR {p : Addr} {xs : List V} (h : EV W te σ H (.ref p)) (hp : ∀ H1, Le W H H1 → SqL K H1 p xs) : ED K W (tCB (fun xs H Q => ∃ x n, xs = [x] ∧ LenV K x H n ∧ Q (.int n) H) (tCons te tNil)) σ H (.int xs.length) :=
  ep_cb (K := K) (ea_v h ea_nil) fun vs H1 Q a r q => by
    obtain ⟨x, rfl, hx⟩ := r.i1
    cases hx
    exact ⟨_, _, rfl, .inl ⟨xs, hp H1 a, rfl⟩, q _ H1 (.refl a.z) (.int _)⟩
theorem ed_isi {T : String} (ho : isOb d = false) (h : ED K W ta σ H d) (hb : EV W tb σ H (.ty T)) (hk : PySem.W.kitOne K (.type (tyD d)) (.type T) = some b) : ED K W (tCB (rIsi K) (tCons ta (tCons tb tNil))) σ H (.bool b) :=
  ep_cb (ea_d h (ea_v hb ea_nil)) fun vs H1 Q a r q => by
    obtain ⟨x, y, rfl, hx, hy⟩ := r.i2
    cases hy
    exact ⟨x, .ty T, _, _, b, rfl, .ty T, Rp.ty hx ho, hk, q _ H1 (.refl a.z) (.bl _)⟩
theorem ed_abs (h : ED K W ta σ H (.int n)) : ED K W (tCB (fun xs H Q => ∃ i, xs = [.int i] ∧ Q (.int (if i < 0 then -i else i)) H) (tCons ta tNil)) σ H (.int (if n < 0 then -n else n)) :=
  ep_cb (ea_v (toI h) (ea_nil (K := K))) fun vs H1 Q a r q => by
    obtain ⟨x, rfl, hx⟩ := r.i1
    cases hx
    exact ⟨n, rfl, q _ H1 (.refl a.z) (.int _)⟩
abbrev rInt1 : List V → Hp → VK → Prop := fun xs H Q => (∃ i, xs = [.int i] ∧ Q (.int i) H) ∨ ∃ k, xs = [.bl k] ∧ Q (.int (if k then 1 else 0)) H
theorem ed_intI (h : ED K W ta σ H (.int n)) : ED K W (tCB rInt1 (tCons ta tNil)) σ H (.int n) :=
  ep_cb (ea_v (toI h) (ea_nil (K := K))) fun vs H1 Q a r q => by
    obtain ⟨x, rfl, hx⟩ := r.i1
    cases hx
    exact .inl ⟨n, rfl, q _ H1 (.refl a.z) (.int _)⟩
theorem ed_intB (h : ED K W ta σ H (.bool b)) : ED K W (tCB rInt1 (tCons ta tNil)) σ H (.int (if b then 1 else 0)) :=
  ep_cb (ea_v (toB h) (ea_nil (K := K))) fun vs H1 Q a r q => by
    obtain ⟨x, rfl, hx⟩ := r.i1
    cases hx
    exact .inr ⟨b, rfl, q _ H1 (.refl a.z) (.int _)⟩
abbrev rList : List V → Hp → VK → Prop := fun xs H Q => ∃ p ys, xs = [.ref p] ∧ (SqL K H p ys ∨ SqT K H p ys) ∧ ∀ l, H l = none → Q (.ref l) (upd H l (.lst ys))
theorem el_listL (h : ED K W te σ H (.list ds)) : EL K W (tCB (rList (K := K)) (tCons te tNil)) σ H ds :=
  ep_cb (ea_d h ea_nil) fun vs H1 Q a r q => by
    obtain ⟨x, rfl, hx⟩ := r.i1
    obtain ⟨p, xs, rfl, _, h1, h2⟩ := Rp.lst_of hx
    exact ⟨p, xs, rfl, .inl (SqL.of h1), fun l hl => q _ _ (.new a.z hl) ⟨l, xs, rfl, a.kp.free _ hl, upd_same, (Le.new a.z hl).ups h2⟩⟩
theorem el_listT (h : ED K W te σ H (.tuple ds)) : EL K W (tCB (rList (K := K)) (tCons te tNil)) σ H ds :=
  ep_cb (ea_d h ea_nil) fun vs H1 Q a r q => by
    obtain ⟨x, rfl, hx⟩ := r.i1
    obtain ⟨p, xs, rfl, h1, h2⟩ := Rp.tup_of hx
    exact ⟨p, xs, rfl, .inr h1, fun l hl => q _ _ (.new a.z hl) ⟨l, xs, rfl, a.kp.free _ hl, upd_same, (Le.new a.z hl).ups h2⟩⟩
abbrev rTup : List V → Hp → VK → Prop := fun xs H Q => ∃ p ys, xs = [.ref p] ∧ ((SqL K H p ys ∧ ∀ l o, H l = none → o.dict = none → Q (.ref l) (upd H l (.frz o (.tup ys)))) ∨ (SqT K H p ys ∧ Q (.ref p) H))
/-- slices -/
theorem eo_none : EO W tNoPart σ H none := fun H1 a Q q => q H1 (.refl a.z)
theorem eo_some (h : ED K W te σ H (.int n)) : EO W (tPart te) σ H (some n) := fun H1 a Q q => toI h H1 a _ fun u H2 a2 e => ⟨n, e, q H2 a2⟩
def cut {α : Type} (xs : List α) (lo hi : Option Int) : List α := (xs.drop (HT.sIx xs.length 0 lo)).take (HT.sIx xs.length xs.length hi - HT.sIx xs.length 0 lo)
theorem rp_cut {xs : List V} {lo hi : Option Int} (r : RpAll K W.N H xs ds) : RpAll K W.N H (cutV xs lo hi) (cut ds lo hi) := by
  unfold cutV cut
  rw [r.length]
  exact (r.drop _).take _
theorem cut_len {α : Type} (xs : List α) (lo hi : Option Int) : (cut xs lo hi).length ≤ xs.length := by
  unfold cut
  rw [List.length_take, List.length_drop]
  omega
theorem el_slL {tl th : TO} {lo hi : Option Int} (h : ED K W te σ H (.list ds)) (h1 : EO W tl σ H lo) (h2 : EO W th σ H hi) : EL K W (tSl (rSlL K) te tl th) σ H (cut ds lo hi) := fun H1 a Q q =>
  h H1 a _ fun u H2 a2 r2 => h1 H2 (a.trans a2) _ fun H3 a3 => h2 H3 ((a.trans a2).trans a3) _ fun H4 a4 => by
    obtain ⟨p, xs, rfl, _, e1, e2⟩ := Rp.lst_of ((a3.trans a4).up r2)
    refine ⟨p, xs, rfl, SqL.of e1, fun l hl => ?_⟩
    have n := Le.new (o := .lst (cutV xs lo hi)) a4.z hl
    exact q _ _ (((a2.trans a3).trans a4).trans n) ⟨l, _, rfl, ((a.trans a2).trans (a3.trans a4)).kp.free _ hl, upd_same, rp_cut (n.ups e2)⟩
theorem ed_slS {tl th : TO} {x : Str} {lo hi : Option Int} (h : ED K W te σ H (.str x)) (h1 : EO W tl σ H lo) (h2 : EO W th σ H hi) (hz : x.length ≤ 100000) : ED K W (tSl rSlS te tl th) σ H (.str (cutS x lo hi)) := fun H1 a Q q =>
  toS h H1 a _ fun u H2 a2 r2 => h1 H2 (a.trans a2) _ fun H3 a3 => h2 H3 ((a.trans a2).trans a3) _ fun H4 a4 => ⟨x, r2, sz_of hz, q _ H4 ((a2.trans a3).trans a4) (.str _)⟩
/-- lists, tuples put together -/
theorem el_cat {es : List PyData} (h : ED K W ta σ H (.list ds)) (h2 : ED K W tb σ H (.list es)) (hz : ds.length + es.length ≤ 100000) : EL K W (tOp rCat ta tb) σ H (ds ++ es) := fun H1 a Q q =>
  h H1 a _ fun x H2 a2 r2 => h2 H2 (a.trans a2) _ fun y H3 a3 r3 => by
    obtain ⟨p, xs, rfl, _, e1, e2⟩ := Rp.lst_of (a3.up r2)
    obtain ⟨p', ys, rfl, _, f1, f2⟩ := Rp.lst_of r3
    refine ⟨p, p', xs, ys, rfl, rfl, e1, f1, by rw [e2.length, f2.length]; exact sz_of hz, fun l hl => ?_⟩
    have n := Le.new (o := .lst (xs ++ ys)) a3.z hl
    exact q _ _ ((a2.trans a3).trans n) ⟨l, _, rfl, ((a.trans a2).trans a3).kp.free _ hl, upd_same, (n.ups e2).app (n.ups f2)⟩
/-- texts: a sign in a text -/
theorem ed_inS {k : Nat} {x : Str} (ha : ED K W ta σ H (.str ⟨#[k]⟩)) (hb : ED K W tb σ H (.str x)) : ED K W (tOp (fun x y H Q => ∃ (c : Nat) (z : Str), x = .str ⟨#[c]⟩ ∧ y = .str z ∧ Q (.bl (decide (c ∈ z.cps.toList))) H) ta tb) σ H (.bool (decide (k ∈ x.cps.toList))) :=
  ofB (ev_op (toS ha) (toS hb) fun H1 Q _ q => ⟨k, x, rfl, rfl, q⟩)
/-- flat things in a list, a tuple -/
theorem ed_inT {neg : Bool} {x : V} {xs : List V} (ha : EV W ta σ H x) (hb : EP W tb σ H fun u H2 => ∃ p, u = .ref p ∧ (SqL K H2 p xs ∨ SqT K H2 p xs)) (hx : flatV x = true) (hf : xs.all flatV = true) : ED K W (tOp (rIn K neg) ta tb) σ H (.bool (if neg then !inV x xs else inV x xs)) := fun H1 a Q q =>
  ha H1 a _ fun u H2 a2 e2 => hb H2 (a.trans a2) _ fun y H3 a3 ⟨p, e3, h3⟩ => by
    subst e2 e3
    exact ⟨p, xs, rfl, h3, hx, hf, q _ H3 (a2.trans a3) (.bl _)⟩
/-- a < b < c -/
theorem ed_chain {f g : Int → Int → Bool} {k : Int} {tc : TE} (ha : ED K W ta σ H (.int n)) (hb : ED K W tb σ H (.int m)) (hc : ED K W tc σ H (.int k)) : ED K W (tChain (rI0 fun i j => .bl (f i j)) (rI0 fun i j => .bl (g i j)) ta tb tc) σ H (.bool (f n m && g m k)) := fun H1 a Q q =>
  toI ha H1 a _ fun x H2 a2 e2 => toI hb H2 (a.trans a2) _ fun y H3 a3 e3 => by
    subst e2 e3
    refine ⟨n, m, rfl, rfl, f n m, rfl, ?_⟩
    cases hf : f n m with
    | true =>
      refine iteT (toI hc H3 ((a.trans a2).trans a3) _ fun w H4 a4 e4 => ?_)
      subst e4
      exact ⟨m, k, rfl, rfl, q _ H4 ((a2.trans a3).trans a4) (by show Rp K W.N H4 _ _; rw [hf]; exact .bl _)⟩
    | false => exact iteF (q _ H3 (a2.trans a3) (by show Rp K W.N H3 _ _; rw [hf]; exact .bl _))
/-- and, or, not as values -/
theorem ed_and (h1 : ED K W ta σ H (.bool b)) (h2 : b = true → ED K W tb σ H (.bool c)) : ED K W (tAndV ta tb) σ H (.bool (b && c)) := fun H1 a Q q => toB h1 H1 a _ fun x H2 a2 e2 => ⟨b, e2, by
  cases b with
  | true => exact iteT (h2 rfl H2 (a.trans a2) _ fun v H3 a3 r => q v H3 (a2.trans a3) r)
  | false => exact iteF (q _ H2 a2 (.bl _))⟩
theorem ed_or (h1 : ED K W ta σ H (.bool b)) (h2 : b = false → ED K W tb σ H (.bool c)) : ED K W (tOrV ta tb) σ H (.bool (b || c)) := fun H1 a Q q => toB h1 H1 a _ fun x H2 a2 e2 => ⟨b, e2, by
  cases b with
  | true => exact iteT (q _ H2 a2 (.bl _))
  | false => exact iteF (h2 rfl H2 (a.trans a2) _ fun v H3 a3 r => q v H3 (a2.trans a3) r)⟩
theorem ed_not (h : ED K W ta σ H (.bool b)) : ED K W (tNotV ta) σ H (.bool (!b)) := fun H1 a Q q => toB h H1 a _ fun x H2 a2 e2 => ⟨b, e2, q _ H2 a2 (.bl _)⟩
theorem ed_if (h : ET W t σ H b) (h1 : b = true → ED K W ta σ H d) (h2 : b = false → ED K W tb σ H d) : ED K W (tIf t ta tb) σ H d := fun H1 a Q q => h H1 a _ fun H2 a2 => by
  cases b with
  | true => exact iteT (h1 rfl H2 (a.trans a2) _ fun v H3 a3 r => q v H3 (a2.trans a3) r)
  | false => exact iteF (h2 rfl H2 (a.trans a2) _ fun v H3 a3 r => q v H3 (a2.trans a3) r)
/-- tests -/
theorem et_test (h : ED K W te σ H (.bool b)) : ET W (tTest te) σ H b := fun H1 a Q q => toB h H1 a _ fun x H2 a2 e2 => ⟨b, e2, q H2 a2⟩
theorem et_B (h : ED K W te σ H (.bool b)) : ET W (tB te) σ H b := fun H1 a Q q => toB h H1 a _ fun x H2 a2 e2 => ⟨b, e2, q H2 a2⟩
theorem et_and (h1 : ET W t σ H b) (h2 : b = true → ET W u σ H c) : ET W (tAnd t u) σ H (b && c) := fun H1 a Q q => h1 H1 a _ fun H2 a2 => by
  cases b with
  | true => exact iteT (h2 rfl H2 (a.trans a2) _ fun H3 a3 => q H3 (a2.trans a3))
  | false => exact iteF (q H2 a2)
theorem et_or (h1 : ET W t σ H b) (h2 : b = false → ET W u σ H c) : ET W (tOr t u) σ H (b || c) := fun H1 a Q q => h1 H1 a _ fun H2 a2 => by
  cases b with
  | true => exact iteT (q H2 a2)
  | false => exact iteF (h2 rfl H2 (a.trans a2) _ fun H3 a3 => q H3 (a2.trans a3))
theorem et_not (h : ET W t σ H b) : ET W (tNot t) σ H (!b) := fun H1 a Q q => h H1 a _ fun H2 a2 => q H2 a2
theorem et_is (h : ET W t σ H b) (e : b = c) : ET W t σ H c := by subst e; exact h
theorem ed_is {e : PyData} (h : ED K W te σ H d) (q : d = e) : ED K W te σ H e := by subst q; exact h
/-- calls of defs -/
theorem ep_call {sp : Sp} {dvs : List V} {E : XK} {ta : TA} {as : List Ar} (h : EA K W ta σ H as) (hs : ∀ vs H1 (Q : VK), Le W H H1 → Ras K W.N H1 vs as → (∀ v H2, Le W H1 H2 → P v H2 → Q v H2) → sp (vs ++ dvs) H1 Q E) : EP W (tCall sp dvs E ta) σ H P := fun H1 a Q q =>
  h H1 a _ fun vs H2 a2 r => hs vs H2 Q (a.trans a2) r fun v H3 a3 p => q v H3 (a2.trans a3) p
/-! ### statements, something behind -/
theorem q_asg {i : Nat} (z : W.Z H) (h : EP W te σ H P) (k : ∀ v H1, Le W H H1 → P v H1 → tz D (σ.set i (some v)) H1) : tSeq (tAsg te (gName i)) tz D σ H := h H (.refl z) _ fun v H1 a p => k v H1 a p
theorem q_drop (z : W.Z H) (h : EP W te σ H P) (k : ∀ v H1, Le W H H1 → P v H1 → tz D σ H1) : tSeq (tDrop te) tz D σ H := h H (.refl z) _ fun v H1 a p => k v H1 a p
theorem s_ret (z : W.Z H) (h : EP W te σ H P) (k : ∀ v H1, Le W H H1 → P v H1 → D.rt v H1) : tRet te D σ H := h H (.refl z) _ fun v H1 a p => k v H1 a p
theorem s_asg {i : Nat} (z : W.Z H) (h : EP W te σ H P) (k : ∀ v H1, Le W H H1 → P v H1 → D.nx (σ.set i (some v)) H1) : tAsg te (gName i) D σ H := h H (.refl z) _ fun v H1 a p => k v H1 a p
theorem s_drop (z : W.Z H) (h : EP W te σ H P) (k : ∀ v H1, Le W H H1 → P v H1 → D.nx σ H1) : tDrop te D σ H := h H (.refl z) _ fun v H1 a p => k v H1 a p
theorem s_if (z : W.Z H) (h : ET W t σ H b) (h1 : b = true → ∀ H1, Le W H H1 → tu D σ H1) (h2 : b = false → ∀ H1, Le W H H1 → tw D σ H1) : tIfS t tu tw D σ H := h H (.refl z) _ fun H1 a => by
  cases b with
  | true => exact iteT (h1 rfl H1 a)
  | false => exact iteF (h2 rfl H1 a)
theorem q_if (z : W.Z H) (h : ET W t σ H b) (h1 : b = true → ∀ H1, Le W H H1 → tu { D with nx := tz D } σ H1) (h2 : b = false → ∀ H1, Le W H H1 → tw { D with nx := tz D } σ H1) : tSeq (tIfS t tu tw) tz D σ H := s_if (D := { D with nx := tz D }) z h h1 h2
end
end Dx

/-! Glue: defs by name, promises of data, the head's facts with own exceptions. -/
namespace Dg
open PySem PySem.Spec PyProof.Rows L2 Dx

/-- a def that may be called by its name -/
structure Cl (P : Program) (w : World) (K : PySem.W.Frag) (mg : Str → Option Value) (base : Heap) (CX : CXT) (k : Nat) (x : Str) (ps : List Str) (sp : Sp) : Prop where
  ex : ∃ f fd, FnOk P w K mg base CX k f fd ps sp ∧ mg x = some (.ref f) ∧ PySem.W.keepIn K (.ref f) = true ∧ Binds K fd ps []
section
variable {X : Cx} {j k : Nat} {x : Str} {ps : List Str} {sp : Sp} {p pos : Pos} {e : Expr} {es : List Expr} {t : TA}
theorem pe_cl (c : Cl X.prog X.w X.K X.mg X.base CX0 k x ps sp) (hr : Room j X.A) (hk : k ≤ j) (hg : Gl X x) (ha : PA X (e :: es) t)
    (hdb : (x == ("__debug__" : Str)) = false := by decide) (he : starEach (e :: es) X.env = (false, eval e X.env) :: starEach es X.env := by rfl) (hpl : (backTo pos (starEach es X.env)).any (·.1) = false := by rfl) :
    PE X (.Call (.Name x p) (e :: es) [] pos) (tCall sp [] E0 t) := by
  obtain ⟨f, fd, F, hm, kp, b⟩ := c.ex
  exact pe_call F (hr.mono hk) hg hm kp b .nil pass0 ha hdb he hpl
theorem pe_cl0 (c : Cl X.prog X.w X.K X.mg X.base CX0 k x [] sp) (hr : Room j X.A) (hk : k ≤ j) (hg : Gl X x) (hdb : (x == ("__debug__" : Str)) = false := by decide) :
    PE X (.Call (.Name x p) [] [] pos) (tCall sp [] E0 tNil) := by
  obtain ⟨f, fd, F, hm, kp, b⟩ := c.ex
  exact pe_call0 F (hr.mono hk) hg hm kp b .nil pass0 hdb
theorem pe_clS {W : WX} (c : Cl X.prog X.w X.K X.mg X.base (L2.CX X.prog X.w) k x ps sp) (hr : Room j X.A) (hk : k ≤ j) (tk : Takes X W) (hg : Gl X x) (ha : PA X (e :: es) t)
    (hdb : (x == ("__debug__" : Str)) = false := by decide) (he : starEach (e :: es) X.env = (false, eval e X.env) :: starEach es X.env := by rfl) (hpl : (backTo pos (starEach es X.env)).any (·.1) = false := by rfl) :
    PE X (.Call (.Name x p) (e :: es) [] pos) (tCallS sp (WE W) t) := by
  obtain ⟨f, fd, F, hm, kp, b⟩ := c.ex
  exact pe_callS F (hr.mono hk) hg hm kp b (passAt tk) ha hdb he hpl
end
section
variable {P : Program} {w : World} {K : PySem.W.Frag} {mg : Str → Option Value} {base : Heap} {x qual : Str} {params : Arguments} {body : List Stmt} {scope : Scope} {f : Addr} {fd : FuncData}
abbrev Fd (K : PySem.W.Frag) (x qual : Str) (st : Stmt) (f : Addr) (fd : FuncData) : Prop := FunD K x qual (defArgs st) (defBody st) (defScope st) [] [] f fd
/-- a def that lets nothing out -/
theorem ok0 {st : Stmt} {N ps : List Str} {k : Nat} {sp : Sp} (F : Fd K x qual st f fd) (S : FnScope N ps (defScope st)) (len : ∀ vs H Q E, sp vs H Q E → vs.length = ps.length)
    (hbody : ∀ (cdv : Value) (A : Around) (outer : List Env) (s : Shared) (H : Hp) (vs : List V) (Q : VK) (E : XK), Room k (A.deeper (envOfC qual (defScope st) s.heap.objs.size f cdv)) → sp vs H Q E →
      ∃ t, PSs (cxOf CX0 P w K mg base N qual (defScope st) f cdv A outer s H E).nox (defBody st) t ∧ t { nx := fun _ H' => Q .non H', rt := Q } (start N vs) H) : FnOk P w K mg base CX0 (k + 1) f fd ps sp :=
  F.ok S len fun cdv A outer s H vs Q E hr hsp => by
    obtain ⟨t, h, q⟩ := hbody cdv A outer s H vs Q E hr hsp
    exact ⟨t, h.nox, q⟩
/-- a def that may raise -/
theorem okX {st : Stmt} {N ps : List Str} {k : Nat} {sp : Sp} (F : Fd K x qual st f fd) (S : FnScope N ps (defScope st)) (len : ∀ vs H Q E, sp vs H Q E → vs.length = ps.length)
    (hbody : ∀ (cdv : Value) (A : Around) (outer : List Env) (s : Shared) (H : Hp) (vs : List V) (Q : VK) (E : XK), Room k (A.deeper (envOfC qual (defScope st) s.heap.objs.size f cdv)) → sp vs H Q E →
      ∃ t, PSs (cxOf (L2.CX P w) P w K mg base N qual (defScope st) f cdv A outer s H E) (defBody st) t ∧ t { nx := fun _ H' => Q .non H', rt := Q } (start N vs) H) : FnOk P w K mg base (L2.CX P w) (k + 1) f fd ps sp :=
  F.ok S len hbody
theorem scope_by {N P : List Str} {sc : Scope} (h : C8.scC N P sc = true) : FnScope N P sc := C8.fnScope_by h
theorem Cl.mk' {CX : CXT} {st : Stmt} {k : Nat} {ps : List Str} {sp : Sp} (F : Fd K x qual st f fd) (hm : mg x = some (.ref f)) (ok : FnOk P w K mg base CX k f fd ps sp) (b : Binds K fd ps []) : Cl P w K mg base CX k x ps sp := ⟨f, fd, ok, hm, F.kp, b⟩
end

/-! ### worlds of pure defs -/
/-- all is kept, lists of data lie where N says -/
def Wp (N : Addr → Prop) : Wd where
  M := fun _ => True
  N := N
  Z := fun H => ∀ p, H p = none → N p
  sub := fun _ _ => trivial
  zx := fun H H' z e p hp => z p (e.free hp)
  nf := fun H p z hp => z p hp
  zu := fun H l xs ys z _ hl p hp => z p (by
    by_cases h : p = l
    · subst h
      rw [upd_same] at hp
      cases hp
    · rw [upd_ne h] at hp
      exact hp)
theorem Wp.same {N : Addr → Prop} {H H' : Hp} (e : Le (Wp N) H H') : Same H H' := fun a o h => e.kp.at_ a o trivial h
/-- the promise of a pure def of data: what it asks, what it gives -/
def spP (K : PySem.W.Frag) (ok : List PyData → Prop) (g : List PyData → PyData) : Sp := fun vs H Q _ => ∃ (N : Addr → Prop) (ds : List PyData), (∀ p, H p = none → N p) ∧ RpAll K N H vs ds ∧ ok ds ∧ ∀ v H', Same H H' → Rp K N H' v (g ds) → Q v H'
/-- .. that gives a new list -/
def spL (K : PySem.W.Frag) (ok : List PyData → Prop) (g : List PyData → List PyData) : Sp := fun vs H Q _ => ∃ (N : Addr → Prop) (ds : List PyData), (∀ p, H p = none → N p) ∧ RpAll K N H vs ds ∧ ok ds ∧ ∀ p xs H', Same H H' → H p = none → H' p = some (.lst xs) → RpAll K N H' xs (g ds) → Q (.ref p) H'
section
variable {K : PySem.W.Frag} {W : Wd} {σ : L2.St} {H : Hp} {ta : TA} {ds : List PyData} {ok : List PyData → Prop} {E : XK}
theorem ed_call {g : List PyData → PyData} (h : EA K W ta σ H (ds.map .d)) (hk : ok ds) : ED K W (tCall (spP K ok g) [] E ta) σ H (g ds) :=
  ep_call h fun vs H1 Q a r q => ⟨W.N, ds, fun p hp => W.nf _ _ a.z hp, by rw [List.append_nil]; exact ras_d r, hk, fun v H2 e r2 => q v H2 (.of a.z e) r2⟩
theorem el_call {g : List PyData → List PyData} (h : EA K W ta σ H (ds.map .d)) (hk : ok ds) : EL K W (tCall (spL K ok g) [] E ta) σ H (g ds) :=
  ep_call h fun vs H1 Q a r q => ⟨W.N, ds, fun p hp => W.nf _ _ a.z hp, by rw [List.append_nil]; exact ras_d r, hk, fun p xs H2 e h1 h2 r2 => q _ H2 (.of a.z e) ⟨p, xs, rfl, a.kp.free _ h1, h2, r2⟩⟩
end
end Dg

/-! Functions as values: lambdas and nested defs as tracked objects, defs that are handed a closure. -/
namespace Fv
open PySem PySem.Spec PyProof.Rows L2 LamX NdefX
/-- a lambda's words -/
structure LF where
  qual : Str
  params : Arguments
  body : Expr
  scope : Scope
  cl : List (Str × Addr)
  c : Addr
/-- .. as one of a def, without the body -/
def LF.nf (F : LF) : NF := ⟨"<lambda>", F.qual, F.params, [], F.scope, F.cl, F.c⟩
inductive FW where
  | nd (F : NF)
  | lm (F : LF)
def FW.nf : FW → NF
  | .nd F => F
  | .lm F => F.nf
def FW.fd : FW → Value → Value → Value → FuncData
  | .nd F, doc, pm, ctv => F.fd doc pm ctv
  | .lm F, _, pm, ctv => PySem.W.kla_fn "<lambda>" F.qual F.params F.body F.scope F.cl pm (.ref F.c) ctv
/-- the object at f is this function -/
def FwO (f : Addr) (F : FW) : HO := .ext fun h => ∃ (od : Option Addr) (sl : Array (Option Value)) (doc pm ctv : Value), h.get? f = some (⟨.type "function", od, .func (F.fd doc pm ctv), sl⟩ : Obj)
theorem fwO_nd {f : Addr} {F : NF} : FwO f (.nd F) = FnO f F := rfl
theorem fwO_ne {f : Addr} {F : FW} (ps : Array Value) : FwO f F ≠ .tbl ps := fun z => by
  unfold FwO at z
  cases z
theorem fwO_at {P : Program} {w : World} {H : Hp} {h : Heap} {f : Addr} {F : FW} (k : HOk P w H h) (e : H f = some (FwO f F)) : ∃ (od : Option Addr) (sl : Array (Option Value)) (doc pm ctv : Value), h.get? f = some (⟨.type "function", od, .func (F.fd doc pm ctv), sl⟩ : Obj) := (k f _ e).1
section
variable {X : Cx} {pins : List (Addr × Obj)} {σ : L2.St} {H : Hp} {s : Shared}
theorem fw_at {f : Addr} {F : FW} (I : Inv X pins σ H s) (e : H f = some (FwO f F)) : PySem.W.FnAt f s.heap := by
  obtain ⟨od, sl, doc, pm, ctv, ho⟩ := fwO_at I.hok e
  exact ⟨_, od, _, sl, ho⟩
/-- a function object just made is tracked -/
theorem inv_fw {F : FW} {o : Obj} {tk : Nat} {doc pm ctv : Value} (I : Inv X pins σ H s) (ho : o = { cls := .type "function", data := .func (F.fd doc pm ctv) }) :
    Inv X pins σ (upd H s.heap.objs.size (FwO s.heap.objs.size F)) { s with heap := s.heap.push o, toks := tk } := by
  subst ho
  have got : (s.heap.push ({ cls := .type "function", data := .func (F.fd doc pm ctv) } : Obj)).get? s.heap.objs.size = some ({ cls := .type "function", data := .func (F.fd doc pm ctv) } : Obj) := Heap.get?_push_size _ rfl
  exact I.laid (a := s.heap.objs.size) (fun b u z => Heap.get?_push_of_some _ z) (Nat.le_refl _) ⟨⟨_, _, doc, pm, ctv, got⟩, ⟨_, got⟩, fun g1 g2 z st => by
    obtain ⟨a1, a2, a3, a4, a5, z⟩ := z
    exact ⟨a1, a2, a3, a4, a5, st _ z⟩⟩
theorem gone2 {H : Hp} {a b x : Addr} {o u : HO} (z : upd (upd H a o) b u x = none) : H x = none := NdefX.upd_none (NdefX.upd_none z)
/-- a lambda is made: its code object is new, or found in the table -/
theorem lam_new {T : List NTab} {nm : Nat → Nat → Str} {c P : Addr} {params : Arguments} {body : Expr} {scope : Scope} {pos : Pos} {E Q : Value → Shared → Prop} (I : Inv X pins σ H s) (tb : TabB X.base X.mg c P) (hc : X.env.code = .ref c)
    (inT : (P, nm) ∈ T) (hn : nm pos.line pos.col = X.env.qual ++ "<lambda>") (one : ∀ p ∈ T, p.1 = P → p.2 = nm) (ht : TabsN T H) (nod : defaultsOf params X.env = ([], [])) (hfr : ∀ y ∈ scope.names, y.2 = .free → ∃ c, X.env.cells.lookup y.1 = some c)
    (k : ∀ (f c' : Addr) (H1 : Hp) (s' : Shared), Inv X pins σ H1 s' → ExtN H H1 → (∀ b, H1 b = none → H b = none) → TabsN T H1 → H f = none → H1 f = some (FwO f (.lm ⟨X.env.qual ++ "<lambda>", params, body, scope, cloFrom X.env.cells scope.names [], c'⟩)) → H1 c' = some (CodeO c' (X.env.qual ++ "<lambda>")) → Q (.ref f) s') :
    wpAny (model X.prog X.w) X.A (eval (.Lambda params body scope pos) X.env) Q E s := by
  obtain ⟨ps, tP, t3, tc⟩ := (show TabN H P nm from ht _ inT)
  refine PySem.W.kla_eval nod ?_
  have blt : s.heap.BuiltinsAt X.mg P := tb.bm.keeps I.bk
  have gP : s.heap.get? P = some { cls := .none, data := .fields ps } := I.hok P _ tP
  have mgl := I.mod.glob.keeps I.bk
  cases look : codeAmong pos ps.toList with
  | some cv =>
    obtain ⟨c', rfl, hco⟩ := tc pos cv look
    rw [hn] at hco
    refine PySem.W.kla_makeFunctionHit (mg := X.mg) (c := c) (P := P) (ps := ps) (closure_ok hfr) I.ok.glob mgl hc (tb.code.keeps I.bk) gP t3 look blt fun ctv g tk old _ => ?_
    have J : Inv X pins σ H { s with heap := g, toks := tk } := I.kept old
    have new : H g.objs.size = none := J.hok.fresh (Nat.le_refl _)
    have J2 := inv_fw (F := .lm ⟨X.env.qual ++ "<lambda>", params, body, scope, cloFrom X.env.cells scope.names [], c'⟩) (tk := tk) (doc := .none) (pm := (X.mg "__name__").getD .none) (ctv := ctv) J rfl
    exact k g.objs.size c' _ _ J2 (fun b o z _ => by rw [upd_ne (ne_of_none z new)]; exact z) (fun b z => NdefX.upd_none z) (ht.ext fun b o z => by rw [upd_ne (ne_of_none z new)]; exact z) new upd_same (by rw [upd_ne (ne_of_none hco new)]; exact hco)
  | none =>
    refine PySem.W.kla_makeFunction (mg := X.mg) (c := c) (P := P) (ps := ps) (closure_ok hfr) I.ok.glob mgl hc (tb.code.keeps I.bk) gP t3 look tb.gP blt fun c' ctv g tk old ge lt rec_ tab => ?_
    obtain ⟨_, oc, vs, t, e2, q1, q2, q3⟩ := rec_
    cases e2
    have nC : H c' = none := I.hok.fresh ge
    have J := inv_table (t' := tk) (more := #[rawInt pos.line, rawInt pos.col, .ref c']) (h' := g) I tP (fun b o n z => old b o n z) tab ge ⟨oc, vs, t, q1, q2, q3⟩
    let H2 := upd (upd H P (.tbl (ps ++ #[rawInt pos.line, rawInt pos.col, .ref c']))) c' (CodeO c' (X.env.qual ++ "<lambda>"))
    have kp : ExtN H H2 := fun b o z n => by
      show upd _ _ _ _ = _
      rw [upd_ne (ne_of_none z nC), upd_ne fun y => n ps (Option.some.inj (z.symm.trans (by rw [y]; exact tP)))]
      exact z
    have l3 : (ps ++ #[rawInt pos.line, rawInt pos.col, .ref c']).toList = ps.toList ++ [rawInt pos.line, rawInt pos.col, .ref c'] := by simp
    have T2 : TabsN T H2 := fun p hp => by
      by_cases y : p.1 = P
      · rw [one p hp y, y]
        refine ⟨_, (upd_ne (ne_of_none tP nC)).trans upd_same, by rw [l3]; exact PySem.TriplesOk_snoc _ _ _ _ t3, fun p2 cv z => ?_⟩
        rw [l3] at z
        rcases among_app2 _ t3 z with z | ⟨rfl, z1, z2⟩
        · obtain ⟨c0, a1, a2⟩ := tc p2 cv z
          exact ⟨c0, a1, kp _ _ a2 codeO_ne⟩
        · exact ⟨c', rfl, by rw [← z1, ← z2, hn]; exact upd_same⟩
      · obtain ⟨ps2, a1, a2, a3⟩ := ht p hp
        refine ⟨ps2, ((upd_ne (ne_of_none a1 nC)).trans (upd_ne y)).trans a1, a2, fun p2 cv z => ?_⟩
        obtain ⟨c0, a4, a5⟩ := a3 p2 cv z
        exact ⟨c0, a4, kp _ _ a5 codeO_ne⟩
    have new : H2 g.objs.size = none := J.hok.fresh (Nat.le_refl _)
    have J2 := inv_fw (F := .lm ⟨X.env.qual ++ "<lambda>", params, body, scope, cloFrom X.env.cells scope.names [], c'⟩) (tk := tk) (doc := .none) (pm := (X.mg "__name__").getD .none) (ctv := ctv) J rfl
    exact k g.objs.size c' _ _ J2 (fun b o z n => (upd_ne (ne_of_none (kp b o z n) new)).trans (kp b o z n)) (fun b z => gone2 (NdefX.upd_none z)) (T2.ext fun b o z => (upd_ne (ne_of_none z new)).trans z) (gone2 new) upd_same ((upd_ne (Nat.ne_of_lt lt)).trans upd_same)
end
/-- the reading of a lambda -/
def tLamE (T : List NTab) (mk : Addr → FW) : TE := fun σ H Q => TabsN T H ∧ ∀ (f c' : Addr) (H1 : Hp), ExtN H H1 → (∀ b, H1 b = none → H b = none) → TabsN T H1 → H f = none → H1 f = some (FwO f (mk c')) → H1 (mk c').nf.c = some (CodeO (mk c').nf.c (mk c').nf.qual) → Q (.ref f) H1
theorem pe_lam {X : Cx} {T : List NTab} {nm : Nat → Nat → Str} {c P : Addr} {params : Arguments} {body : Expr} {scope : Scope} {pos : Pos} (tb : TabB X.base X.mg c P) (hc : X.env.code = .ref c) (inT : (P, nm) ∈ T) (hn : nm pos.line pos.col = X.env.qual ++ "<lambda>") (one : ∀ p ∈ T, p.1 = P → p.2 = nm)
    (hfr : ∀ y ∈ scope.names, y.2 = .free → X.env.scope.names.lookup y.1 = some .cell ∨ X.env.scope.names.lookup y.1 = some .free) (nod : defaultsOf params X.env = ([], []) := by rfl) :
    PE X (.Lambda params body scope pos) (tLamE T fun c' => .lm ⟨X.env.qual ++ "<lambda>", params, body, scope, cloFrom X.env.cells scope.names [], c'⟩) := by
  refine ⟨fun pins s σ H Q I h => ?_⟩
  obtain ⟨ht, h⟩ := h
  exact lam_new I tb hc inT hn one ht nod (fun y hy e => (hfr y hy e).elim (fun z => I.ok.has _ (.inl z)) fun z => I.ok.has _ (.inr z)) fun f c' H1 s' J a1 a2 a3 a4 a5 a6 => ⟨.ref f, H1, J, rfl, h f c' H1 a1 a2 a3 a4 a5 a6⟩
/-! ### what a function value promises -/
structure WOk (P : Program) (w : World) (K : PySem.W.Frag) (mg : Str → Option Value) (base : Heap) (CX : CXT) (k : Nat) (F : FW) (ps fr : List Str) (sp : List (Option V) → Sp) : Prop where
  len : ∀ ws vs H Q E, sp ws vs H Q E → vs.length = ps.length
  run : ∀ (f : Addr) (A : Around) (outer : List Env) (s : Shared) (H : Hp) (us : List Value) (vs : List V) (ws : List (Option V)) (Q : VK) (E : XK), Room k A → Env0 P w K mg base A outer s H → H f = some (FwO f F) → H F.nf.c = some (CodeO F.nf.c F.nf.qual) →
    CellsAt F.nf.cl fr ws s.heap H → Vals vs us → sp ws vs H Q E → codeAny (model P w) A (.call (.ref f) ⟨us, []⟩) (CR CX outer P w H s Q E) s
section
variable {CX : CXT} {P : Program} {w : World} {K : PySem.W.Frag} {mg : Str → Option Value} {base : Heap} {N ps fr : List Str} {f : Addr} {k j : Nat} {sp sp' : List (Option V) → Sp}
theorem WOk.mono {F : FW} (o : WOk P w K mg base CX j F ps fr sp) (h : j ≤ k) : WOk P w K mg base CX k F ps fr sp := ⟨o.len, fun f A outer s H us vs ws Q E hr => o.run f A outer s H us vs ws Q E (hr.mono h)⟩
theorem WOk.nd {F : NF} (o : ∀ f, NOk P w K mg base CX k f F ps fr sp) : WOk P w K mg base CX k (.nd F) ps fr sp := ⟨(o 0).len, fun f A outer s H us vs ws Q E hr e0 h1 h2 C r q => (o f).run A outer s H us vs ws Q E hr e0 h1 h2 C r q⟩
/-- a lambda by its body -/
theorem wok_lam {F : LF} (S : NScope N ps fr F.scope) (hb : ∀ (pm ctv : Value) (us : List Value), us.length = ps.length → bindArgs (PySem.W.kla_fn "<lambda>" F.qual F.params F.body F.scope F.cl pm (.ref F.c) ctv) ⟨us, []⟩ = pure (ps.zip us)) (len : ∀ ws vs H Q E, sp ws vs H Q E → vs.length = ps.length)
    (hbody : ∀ (f : Addr) (A : Around) (outer : List Env) (s : Shared) (H : Hp) (vs : List V) (ws : List (Option V)) (Q : VK) (E : XK), Room k (A.deeper (envF F.nf f s.heap.objs.size)) → ws.length = fr.length → sp ws vs H Q E →
      ∃ t, PE (ncx CX P w K mg base N F.nf f A outer s H E) F.body t ∧ t (startF N vs ws) H Q) : WOk P w K mg base CX (k + 1) (.lm F) ps fr sp := by
  refine ⟨len, fun f A outer s H us vs ws Q E hr e0 hf hc C r hsp => ?_⟩
  have ln := len _ _ _ _ _ hsp
  have lim : s.heap.NoLimit := e0.mod.nolimit.keeps fun b o z => (e0.bs b o z).1
  obtain ⟨od, sl, doc, pm, ctv, ho⟩ := fwO_at e0.hok hf
  refine PySem.W.kla_callFunE hr.depth ho rfl S.co S.gen rfl (codeO_at e0.hok hc) ?_
  have hb2 := hb pm ctv us (by rw [← r.length]; exact ln)
  show wpAny _ _ (bindArgs (PySem.W.kla_fn "<lambda>" F.qual F.params F.body F.scope F.cl pm (.ref F.c) ctv) ⟨us, []⟩) _ _ _
  rw [hb2]
  refine wpAny_pure (wpAny_newFunctionEnv S.nocell (fun ⟨n, _⟩ hy => S.par n (List.of_mem_zip hy).1) (fun g hns sb => ⟨lim.fresh _ sb, ?_⟩) S.kind)
  show codeAny _ _ (.expr F.body (envF F.nf f s.heap.objs.size)) _ _
  have old : ∀ b o, s.heap.get? b = some o → g.get? b = some o := fun b o z => sb.extBut b o (Nat.ne_of_lt (Heap.lt_size z)) (Heap.get?_push_of_some _ z)
  obtain ⟨t, ht, hq⟩ := hbody f A outer s H vs ws Q E (hr.deeper _) C.len hsp
  have J : Inv (ncx CX P w K mg base N F.nf f A outer s H E) [] (startF N vs ws) H { s with heap := g, toks := s.toks + (ps.zip us).length } := inv_startN S hr.hd e0 ln r C hns old
  refine PySem.W.kla_codeExpr (wpAny_mono (ht.run [] _ (startF N vs ws) H Q J hq) (fun v s' z => ?_) fun e s' z => z)
  obtain ⟨w1, H', J', rv, q⟩ := z
  exact ⟨w1, H', J'.os, J'.bare, J'.base, J'.hok, rv, q⟩
end
/-! ### cells that a def was handed with a closure -/
structure CelOk (cl : List (Str × Addr)) (fr : List Str) (ws : List (Option V)) (outer : List Env) (h : Heap) (H : Hp) : Prop where
  c : CellsAt cl fr ws h H
  nf : ∀ y a, cl.lookup y = some a → a ∉ frs outer
section
variable {X : Cx} {pins : List (Addr × Obj)} {σ : L2.St} {H : Hp} {s : Shared} {cl : List (Str × Addr)} {fr : List Str} {ws : List (Option V)} {js : List Nat}
theorem cell_loc (I : Inv X pins σ H s) {a : Addr} {v : Option Value} (h : s.heap.IsCell a v) : a ≠ X.env.locals := fun z => by
  obtain ⟨m, ⟨o1, es, ep, g1, g2, _⟩, _⟩ := I.loc
  obtain ⟨o2, g3, g4⟩ := h
  rw [z, g1] at g3
  cases g3
  rw [g2] at g4
  cases g4
theorem nofrs (I : Inv X pins σ H s) {a : Addr} {v : Option Value} (h : s.heap.IsCell a v) (n : a ∉ X.fs) : a ∉ frs X.stack := fun z => (List.mem_cons.mp (I.stkSub a z)).elim (cell_loc I h) n
theorem CelOk.later (C : CelOk cl fr ws X.outer X.s_0.heap X.H_0) (hx : X.ex = []) (I : Inv X pins σ H s) : CelOk cl fr ws X.stack s.heap H := by
  have k := C.c.later C.nf (fun y c _ z => by rw [hx] at z; cases z) I
  exact ⟨k, fun y a e => nofrs I (k.all y a e).2.choose_spec (C.nf y a e)⟩
/-- a closure's cells, of the def that makes it -/
theorem CelOk.made (cp : X.Ok → Caps X cl fr js) (hf : ∀ x, X.fn x = true) (I : Inv X pins σ H s) : CelOk cl fr (js.map (slotAt σ)) X.stack s.heap H := by
  have k := cells_of I (cp I.ok)
  refine ⟨k, fun y a e => nofrs I (k.all y a e).2.choose_spec fun z => ?_⟩
  obtain ⟨_, o, ho, _⟩ := I.ok.funs.mem z
  exact Nat.lt_irrefl _ (Nat.lt_of_lt_of_le (Heap.lt_size ho) (I.ok.cab y a (hf y) ((cp I.ok).sub y a e)))
theorem CelOk.nil {outer : List Env} {h : Heap} : CelOk [] [] [] outer h H := ⟨⟨rfl, fun _ _ z => (by cases z), fun _ _ _ z => (by cases z), fun i y z => (by simp at z)⟩, fun _ _ z => (by cases z)⟩
end
abbrev SpC := List (Str × Addr) → List Str → List (Option V) → Sp
/-- the promise of a def that is handed a closure: told what its cells hold -/
structure COk (P : Program) (w : World) (K : PySem.W.Frag) (mg : Str → Option Value) (base : Heap) (CX : CXT) (k : Nat) (f : Addr) (fd : FuncData) (ps : List Str) (sp : SpC) : Prop where
  len : ∀ cl fr ws vs H Q E, sp cl fr ws vs H Q E → vs.length = ps.length
  run : ∀ (A : Around) (outer : List Env) (s : Shared) (H : Hp) (args : Args) (us : List Value) (vs : List V) (Q : VK) (E : XK) (cl : List (Str × Addr)) (fr : List Str) (ws : List (Option V)), Room k A → Env0 P w K mg base A outer s H → BindsTo s fd args (ps.zip us) → Vals vs us →
    CelOk cl fr ws outer s.heap H → sp cl fr ws vs H Q E → codeAny (model P w) A (.call (.ref f) args) (CR CX outer P w H s Q E) s
section
variable {CX : CXT} {P : Program} {w : World} {K : PySem.W.Frag} {mg : Str → Option Value} {base : Heap} {N ps : List Str} {f : Addr} {fd : FuncData} {x qual : Str} {params : Arguments} {body : List Stmt} {scope : Scope} {k j : Nat} {sp sp' : SpC}
theorem COk.mono (o : COk P w K mg base CX j f fd ps sp) (h : j ≤ k) : COk P w K mg base CX k f fd ps sp := ⟨o.len, fun A outer s H args us vs Q E cl fr ws hr => o.run A outer s H args us vs Q E cl fr ws (hr.mono h)⟩
theorem cok_of (F : FunD K x qual params body scope [] [] f fd) (S : FnScope N ps scope) (len : ∀ cl fr ws vs H Q E, sp cl fr ws vs H Q E → vs.length = ps.length)
    (hbody : ∀ (cdv : Value) (A : Around) (outer : List Env) (s : Shared) (H : Hp) (vs : List V) (Q : VK) (E : XK) (cl : List (Str × Addr)) (fr : List Str) (ws : List (Option V)), Room k (A.deeper (envOfC qual scope s.heap.objs.size f cdv)) → CelOk cl fr ws outer s.heap H → sp cl fr ws vs H Q E →
      ∃ t, PSs (cxOf CX P w K mg base N qual scope f cdv A outer s H E) body t ∧ t { nx := fun _ H' => Q .non H', rt := Q } (L2.start N vs) H) : COk P w K mg base CX (k + 1) f fd ps sp := by
  obtain ⟨oc, od, dV, kV, doc, pm, an, cdv, ct, osl, rfl, lk, hcd, _, _⟩ := F.ex
  exact ⟨len, fun A outer s H args us vs Q E cl fr ws hr e0 hb r C hsp => run_ofS lk hcd S hr e0 hb r (len _ _ _ _ _ _ _ hsp) fun hr2 => hbody cdv A outer s H vs Q E cl fr ws hr2 C hsp⟩
end
/-! ### calls -/
/-- f(..) of such a def; js: where the captured names stand among the running frame's -/
def tCallC (sp : SpC) (cl : List (Str × Addr)) (fr : List Str) (js : List Nat) (E : XK) (t : TA) : TE := fun σ H Q => t σ H fun vs H1 => sp cl fr (js.map (slotAt σ)) vs H1 Q E
/-- .. the closure is one that the running def was handed itself -/
def tCallP (sp : SpC) (cl : List (Str × Addr)) (fr : List Str) (ws : List (Option V)) (E : XK) (t : TA) : TE := fun σ H Q => t σ H fun vs H1 => sp cl fr ws vs H1 Q E
/-- f(..), f a slot with a closure that the running def was handed: one of mk -/
def tCallV (i : Nat) (J : Nat → Prop) (mk : Nat → List (Str × Addr) → Addr → FW) (fu : Nat → List Str) (cl : List (Str × Addr)) (fr : List Str) (ws : List (Option V)) (sp : Nat → List (Option V) → Sp) (E : XK) (t : TA) : TE := fun σ H Q => ∃ f j c', σ[i]? = some (some (.ref f)) ∧ J j ∧ fu j = fr ∧ H f = some (FwO f (mk j cl c')) ∧
  t σ H fun vs H1 => H1 f = some (FwO f (mk j cl c')) ∧ H1 (mk j cl c').nf.c = some (CodeO (mk j cl c').nf.c (mk j cl c').nf.qual) ∧ sp j ws vs H1 Q E
section
variable {X : Cx} {CX : CXT} {k : Nat} {f : Addr} {fd : FuncData} {ps fr : List Str} {sp : SpC} {cl : List (Str × Addr)} {ws : List (Option V)} {js : List Nat} {E : XK} {x : Str} {p pos : Pos} {e : Expr} {es : List Expr} {t : TA} {i j : Nat}
theorem run_c {pins : List (Addr × Obj)} {σ : L2.St} {H : Hp} {s : Shared} {Q : VK} {us : List Value} {vs : List V} (F : COk X.prog X.w X.K X.mg X.base CX k f fd ps sp) (hr : Room k X.A) (hb : Binds X.K fd ps []) (hx : Passes CX X E)
    (I : Inv X pins σ H s) (r : Vals vs us) (C : CelOk cl fr ws X.stack s.heap H) (h : sp cl fr ws vs H Q E) : wpAny (model X.prog X.w) X.A (call (.ref f) us) (EP X pins σ Q) X.xe s := by
  have ln : (us ++ []).length = ps.length := by rw [List.append_nil, ← r.length]; exact F.len _ _ _ _ _ _ _ h
  have bd := hb s us I.kIn ln
  rw [List.append_nil] at bd
  refine wpAny_call (codeAny_mono (F.run X.A X.stack s H ⟨us, []⟩ us vs Q E cl fr ws hr I.env0 bd r C h) fun r s' q => ?_)
  cases r with
  | ok fl =>
    cases fl with
    | ret u => exact I.after q
    | next => exact False.elim q
    | brk => exact False.elim q
    | cont => exact False.elim q
  | error e => exact hx pins σ H s e s' I q
theorem pe_callC (F : COk X.prog X.w X.K X.mg X.base CX k f fd ps sp) (hr : Room j X.A) (hkj : k ≤ j) (hg : Gl X x) (hm : X.mg x = some (.ref f)) (hk : PySem.W.keepIn X.K (.ref f) = true) (hb : Binds X.K fd ps []) (hx : Passes CX X E) (cp : X.Ok → Caps X cl fr js) (hf : ∀ y, X.fn y = true)
    (ha : PA X (e :: es) t) (hdb : (x == ("__debug__" : Str)) = false := by decide) (he : starEach (e :: es) X.env = (false, eval e X.env) :: starEach es X.env := by rfl) (hpl : (backTo pos (starEach es X.env)).any (·.1) = false := by rfl) :
    PE X (.Call (.Name x p) (e :: es) [] pos) (tCallC sp cl fr js E t) := by
  refine ⟨fun pins s σ H Q I h => ?_⟩
  refine wpAny_Call_Name_kw (ld_glob I hg hm ?_ hdb)
  refine PySem.W.callWith_K (h₀ := X.base) I.ok.mod.kin hk (thn (ha.run pos pins s σ H _ I h) fun us s1 ⟨vs, H1, I1, r, q⟩ => ⟨I1.kIn, ?_⟩) he hpl
  exact run_c F (hr.mono hkj) hb hx I1 r (CelOk.made cp hf I1) q
theorem pe_callP (F : COk X.prog X.w X.K X.mg X.base CX k f fd ps sp) (hr : Room j X.A) (hkj : k ≤ j) (hg : Gl X x) (hm : X.mg x = some (.ref f)) (hk : PySem.W.keepIn X.K (.ref f) = true) (hb : Binds X.K fd ps []) (hx : Passes CX X E) (C : CelOk cl fr ws X.outer X.s_0.heap X.H_0) (hex : X.ex = [])
    (ha : PA X (e :: es) t) (hdb : (x == ("__debug__" : Str)) = false := by decide) (he : starEach (e :: es) X.env = (false, eval e X.env) :: starEach es X.env := by rfl) (hpl : (backTo pos (starEach es X.env)).any (·.1) = false := by rfl) :
    PE X (.Call (.Name x p) (e :: es) [] pos) (tCallP sp cl fr ws E t) := by
  refine ⟨fun pins s σ H Q I h => ?_⟩
  refine wpAny_Call_Name_kw (ld_glob I hg hm ?_ hdb)
  refine PySem.W.callWith_K (h₀ := X.base) I.ok.mod.kin hk (thn (ha.run pos pins s σ H _ I h) fun us s1 ⟨vs, H1, I1, r, q⟩ => ⟨I1.kIn, ?_⟩) he hpl
  exact run_c F (hr.mono hkj) hb hx I1 r (C.later hex I1) q
theorem pe_callV {J : Nat → Prop} {mk : Nat → List (Str × Addr) → Addr → FW} {fu : Nat → List Str} {pss : Nat → List Str} {spv : Nat → List (Option V) → Sp} (Fn : ∀ j, J j → ∀ c', WOk X.prog X.w X.K X.mg X.base CX k (mk j cl c') (pss j) (fu j) (spv j)) (hcl : ∀ j, J j → ∀ c', (mk j cl c').nf.cl = cl)
    (hr : Room i X.A) (hkj : k ≤ i) (hx : Passes CX X E) (C : CelOk cl fr ws X.outer X.s_0.heap X.H_0) (hex : X.ex = []) {n : Nat} (hN : X.N[n]? = some x) (hv : Vis X.env.scope x) (ha : PA X (e :: es) t)
    (hd : (x == ("__debug__" : Str)) = false := by decide) (hcd : (x == ("__classdict__" : Str)) = false := by decide)
    (he : starEach (e :: es) X.env = (false, eval e X.env) :: starEach es X.env := by rfl) (hpl : (backTo pos (starEach es X.env)).any (·.1) = false := by rfl) :
    PE X (.Call (.Name x p) (e :: es) [] pos) (tCallV n J mk fu cl fr ws spv E t) := by
  refine ⟨fun pins s σ H Q I h => ?_⟩
  obtain ⟨g, j, c', hs, hj, rfl, hf, ht⟩ := h
  refine wpAny_Call_Name_kw (thn ((pe_var (pos := p) hN hv hd hcd).run pins s σ H (fun v H1 => v = .ref g ∧ H1 = H) I ⟨.ref g, hs, rfl, rfl⟩) fun u s1 ⟨v, H1, I1, r1, q1⟩ => ?_)
  obtain ⟨rfl, rfl⟩ := q1
  obtain rfl : u = Value.ref g := r1
  refine PySem.W.callWith_F (first := []) (fw_at I1 hf) (thn (ha.run pos pins s1 σ H1 _ I1 ht) fun us s2 ⟨vs, H2, I2, r, h1, h2, q⟩ => ⟨fw_at I2 h1, ?_⟩) he hpl
  show wpAny _ _ (call (.ref g) us) _ _ _
  refine wpAny_call (codeAny_mono ((Fn j hj c').run g X.A X.stack s2 H2 us vs _ Q E (hr.mono hkj) I2.env0 h1 h2 (by rw [hcl j hj c']; exact (C.later hex I2).c) r q) fun r s' z => ?_)
  cases r with
  | ok fl =>
    cases fl with
    | ret u => exact I2.after z
    | next => exact False.elim z
    | brk => exact False.elim z
    | cont => exact False.elim z
  | error e => exact hx pins σ H2 s2 e s' I2 z
end
end Fv

/-! list(reversed(x)), x a list or a tuple. -/
namespace Lrev
open PySem PySem.Spec PyProof.Rows L2

section
variable {prog : Program} {w : World} {A : Around} {E : Value → Shared → Prop} {s : Shared} {T : String} {r : Addr} {n : Nat} {P : Nat → Value → Prop} {fp wr : List Addr} {St : Nat → Heap → Prop}
/-- an iterator that list() can take: its walk, its type, its length hint -/
structure Src (prog : Program) (w : World) (T : String) (r : Addr) (fp : List Addr) (n : Nat) (P : Nat → Value → Prop) (St : Nat → Heap → Prop) : Prop where
  walks : ∀ A : Around, A.handled = none → Walks prog w A r fp [r] n P St
  type : ∀ (s : Shared), St 0 s.heap → s.TypeIs (.ref r) T
  there : ∀ h : Heap, St 0 h → ∀ b ∈ fp, b < h.objs.size
  notList : (Value.type T == Value.type "list") = false
  notTuple : (Value.type T == Value.type "tuple") = false
  hint : ∀ (A : Around) (E : Value → Shared → Prop) (s : Shared) (Q : Bool → Shared → Prop), St 0 s.heap → (∀ b tk, Q b { s with toks := tk }) → wpAny (model prog w) A (Builtin.List.listLengthHint (.ref r)) Q E s

theorem extend {R : Result → Shared → Prop} (K : Src prog w T r fp n P St) (hh : A.handled = none) (st : St 0 s.heap) (S : Addr) (hSf : S ∉ fp) (res : Value) (c0 : Nat) (hS : s.heap.get? S = some { cls := .type "list", data := .seq #[] c0 })
    (hR : ∀ h' tk acc' c', (∀ b o, b ≠ S → b ≠ r → s.heap.get? b = some o → h'.get? b = some o) → h'.get? S = some { cls := .type "list", dict := none, data := .seq acc' c', slots := #[] } → ItemsOf P acc' n → R (.ok (.ret res)) { s with heap := h', toks := tk }) (hn : n ≤ sizeLine) :
    wpAny (model prog w) A.in1 (Builtin.List.listExtendWith (.ref S) (.ref r) res)
      (fun fin s' => match fin with | .done f => R (.ok f) s' | .again c' => c'.quiet = true ∧ codeAny (model prog w) A c' R s') (fun e s' => R (.error e) s') s := by
  have W := K.walks A.in1 hh
  have hrf : r ∈ fp := W.sub r (by simp)
  have hSr : S ≠ r := fun z => hSf (z ▸ hrf)
  have key : ∀ (h : Heap) (c1 tk : Nat), St 0 h → (∀ b o, b ≠ S → s.heap.get? b = some o → h.get? b = some o) →
      h.get? S = some { cls := .type "list", data := .seq #[] c1 } → codeAny (model prog w) A (.builtin "list.extend.loop" ⟨[.ref S, .ref r, res], []⟩) R { s with heap := h, toks := tk } := by
    intro h c1 tk hst hk hS1
    refine codeAny_extend_loopS W.toS hn S hSf res n 0 _ #[] c1 rfl (Nat.zero_le _) hst hS1 (ItemsOf.nil _) fun s' acc' c' hm hS' hacc => ?_
    rw [Moved.eq_with hm]
    refine hR s'.heap s'.toks acc' c' (fun b o hb hbr e => hm.heap b o (fun hmem => ?_) (hk b o hb e)) hS' hacc
    rcases List.mem_cons.mp hmem with e' | hmem
    · exact hb e'
    · exact hbr (List.mem_singleton.mp hmem)
  unfold Builtin.List.listExtendWith
  refine wpAny_bind (wpAny_typeOf (T := T) (K.type s st) ?_)
  have h1 : Builtin.List.listSameRef (.ref S) (.ref r) = false := by simp [Builtin.List.listSameRef, hSr]
  simp only [h1, K.notList, K.notTuple, Bool.or_false, Bool.false_eq_true, if_false]
  refine wpAny_bind (W.self 0 s _ _ st ?_)
  refine wpAny_bind (wpAny_holding (K.hint _ _ s _ st fun b tk => ?_))
  refine wpAny_ite_split (fun _ => ?_) (fun _ => wpAny_pure ⟨plainId_quiet PySem.F.plain_extend_loop _, key _ c0 _ st (fun b o _ e => e) hS⟩)
  refine wpAny_bind (wpAny_rule ?_)
  refine wpAny_bind ?_
  show wpAny _ _ (updateSeq S (·.push .none) >>= fun _ => updateSeq S (·.pop)) _ _ _
  refine wpAny_bind (wpAny_updateSeq (s := { s with toks := tk }) hS rfl ?_)
  have hS2 := Heap.get?_update_self (Obj.mapSeq (·.push Value.none)) hS rfl
  refine wpAny_updateSeq (hz := by seq_fits) hS2 rfl ?_
  have hS3 := Heap.get?_update_self (Obj.mapSeq (·.pop)) hS2 rfl
  refine wpAny_pure ⟨plainId_quiet PySem.F.plain_extend_loop _, key _ _ _ ?_ (fun b o hb e => ?_) hS3⟩
  · refine W.frame 0 _ _ st fun b hb o e => ?_
    have hbS : b ≠ S := fun h => hSf (h ▸ hb)
    exact (Heap.get?_update_other _ _ (Ne.symm hbS)).trans ((Heap.get?_update_other _ _ (Ne.symm hbS)).trans e)
  · exact (Heap.get?_update_other _ _ (Ne.symm hb)).trans ((Heap.get?_update_other _ _ (Ne.symm hb)).trans e)
theorem init {R : Result → Shared → Prop} (K : Src prog w T r fp n P St) (hh : A.handled = none) (st : St 0 s.heap) (S : Addr) (hSf : S ∉ fp) (hS : s.heap.get? S = some { cls := .type "list", data := .seq #[] })
    (hR : ∀ h' tk acc' c', (∀ b o, b ≠ S → b ≠ r → s.heap.get? b = some o → h'.get? b = some o) → h'.get? S = some { cls := .type "list", dict := none, data := .seq acc' c', slots := #[] } → ItemsOf P acc' n → R (.ok (.ret .none)) { s with heap := h', toks := tk }) (hn : n ≤ sizeLine) :
    wpAny (model prog w) A.in1 (Builtin.«list.__init__» ⟨[.ref S, .ref r], []⟩)
      (fun fin s' => match fin with | .done f => R (.ok f) s' | .again c' => c'.quiet = true ∧ codeAny (model prog w) A c' R s') (fun e s' => R (.error e) s') s := by
  show wpAny _ _ (do let old ← Builtin.List.listItems (.ref S); Builtin.List.listUpdate (.ref S) (fun _ => #[]); letGo old.toList.reverse; Builtin.List.listExtendWith (.ref S) (.ref r) .none) _ _ s
  refine wpAny_bind ?_
  unfold Builtin.List.listItems
  refine wpAny_bind (wpAny_seqItems hS rfl (wpAny_pure ?_))
  show wpAny _ _ (updateSeq S (fun _ => #[]) >>= fun _ => letGo (#[] : Array Value).toList.reverse >>= fun _ => Builtin.List.listExtendWith (.ref S) (.ref r) .none) _ _ s
  refine wpAny_bind (wpAny_updateSeq hS rfl ?_)
  have hS2 := Heap.get?_update_self (Obj.mapSeq (fun _ => (#[] : Array Value))) hS rfl
  have oth : ∀ b o, b ≠ S → s.heap.get? b = some o → (s.heap.update S (Obj.mapSeq (fun _ => (#[] : Array Value)))).get? b = some o :=
    fun b o hb e => (Heap.get?_update_other _ _ (Ne.symm hb)).trans e
  refine wpAny_bind (wpAny_letGo ?_)
  refine extend K hh ((K.walks A hh).frame 0 _ _ st fun b hb o e => oth b o (fun h => hSf (h ▸ hb)) e) S hSf .none _ hS2 (fun h' tk acc' c' hk hS' hacc => ?_) hn
  exact hR h' tk acc' c' (fun b o hb hbr e => hk b o hb hbr (oth b o hb e)) hS' hacc
theorem call_list {Q : Value → Shared → Prop} (K : Src prog w T r fp n P St) (hh : A.handled = none) (st : St 0 s.heap) (hn : n ≤ sizeLine)
    (hQ : ∀ h' tk acc' c', (∀ b o, b ≠ r → s.heap.get? b = some o → h'.get? b = some o) → h'.get? s.heap.objs.size = some { cls := .type "list", dict := none, data := .seq acc' c', slots := #[] } → ItemsOf P acc' n → Q (.ref s.heap.objs.size) { s with heap := h', toks := tk }) :
    wpAny (model prog w) A (call (.type "list") [.ref r]) Q E s := by
  refine callType_codes (Q₁ := fun obj s₁ => obj = .ref s.heap.objs.size ∧ s₁ = { s with heap := s.heap.push { cls := .type "list", data := .seq #[] } }) PySem.F.called_list (PySem.F.typeCall_list_1 _) PySem.F.entry_list_init
    (code_list_new _ ⟨rfl, rfl⟩) fun obj s1 h1 => ?_
  obtain ⟨rfl, rfl⟩ := h1
  have hS : (s.heap.push { cls := .type "list", data := .seq #[] }).get? s.heap.objs.size = some { cls := .type "list", data := .seq #[] } := Heap.get?_push_size _ rfl
  have hlt := K.there _ st
  refine ⟨⟨_, hS, rfl⟩, PySem.F.args_list_init_2 _ _, init (A := A.in1) K hh ((K.walks A hh).frame 0 _ _ st fun b _ o e => Heap.get?_push_of_some _ e) _ (fun z => Nat.lt_irrefl _ (hlt _ z)) hS (fun h' tk acc' c' hk hS' hacc => ?_) hn⟩
  exact ⟨rfl, hQ h' tk acc' c' (fun b o hbr e => hk b o (Nat.ne_of_lt (Heap.lt_size e)) hbr (Heap.get?_push_of_some _ e)) hS' hacc⟩
end
/-! ### reversed(list) -/
section
variable {prog : Program} {w : World}
theorem src_list {l r : Addr} (items : Array Value) (hne : l ≠ r) : Src prog w "list_reverseiterator" r [r, l] items.size (fun i v => items[items.size - 1 - i]? = some v) (fun i h => i ≤ items.size ∧ h.IsRevIter r l ((items.size : Int) - 1 - (i : Int)) ∧ h.IsList l items) where
  walks := fun A hh => Walks.listRev hh r l hne items
  type := fun s st => st.2.1.typeIs
  there := fun h st b hb => by
    obtain ⟨_, ⟨o, ho, _⟩, ⟨o2, ho2, _⟩⟩ := st
    simp only [List.mem_cons, List.not_mem_nil, or_false] at hb
    rcases hb with rfl | rfl
    · exact Heap.lt_size ho
    · exact Heap.lt_size ho2
  notList := by decide
  notTuple := by decide
  hint := fun A E s Q st hq => by
    have hT := Heap.IsRevIter.typeIs (s := s) st.2.1
    unfold Builtin.List.listLengthHint
    refine wpAny_bind (wpAny_specialOf hT RT.nolen_lri ?_)
    show wpAny _ _ (specialOf (Value.ref r) (Str.ofString "__length_hint__") >>= _) _ _ _
    refine wpAny_bind (wpAny_specialOf hT RT.hint_lri ?_)
    generalize hid : ("list_reverseiterator.__length_hint__" : String) = id0
    wp_delta
    rw [show splitId id0 = some ("list_reverseiterator", "__length_hint__") from by subst hid; decide +kernel]
    subst hid
    refine wpAny_bind (wpAny_isInstance (b := true) hT (by rw [isSubtype_type]; kernel_rfl) ?_)
    exact wpAny_pure (hq _ _)
theorem nolen_rt : typeLookup (.type "reversed") "__len__" = pure none := by rw [typeLookup_type, builtinLookup_eq_fast]; kernel_rfl
theorem hint_rt : typeLookup (.type "reversed") "__length_hint__" = pure (some (.builtin "reversed.__length_hint__")) := by rw [typeLookup_type, builtinLookup_eq_fast]; kernel_rfl
theorem owner_rt2 : Manifest.owners.lookup (String.ofList ['d', 'e', 's', 'r', 'e', 'v', 'e', 'r'].reverse) = some Manifest.sig_reversed := by kernel_rfl
theorem slot_rt_hint : Slot "reversed" "__length_hint__" "reversed.__length_hint__" :=
  .of (owner := "reversed") (n := "__length_hint__") (by rw [typeLookup_type, builtinLookup_eq_fast]; kernel_rfl) (by decide +kernel) (by decide +kernel) (by decide +kernel)
    (by first | exact .inl (by decide +kernel) | exact .inr (by decide +kernel)) (by rw [isSubtype_type]; kernel_rfl)
theorem entry_rt_hint : entryFor table "reversed.__length_hint__" = some Builtin.«reversed.__length_hint__» := entryFor_of_tree (by kernel_rfl)
theorem args_rt_hint (a : Value) : argsOk "reversed.__length_hint__" ⟨[a], []⟩ := by
  unfold argsOk; rw [signature?_of (id := "reversed.__length_hint__") (n := ['_', '_', 't', 'n', 'i', 'h', '_', 'h', 't', 'g', 'n', 'e', 'l', '_', '_']) (o := ['d', 'e', 's', 'r', 'e', 'v', 'e', 'r']) (by kernel_rfl) owner_rt2]; kernel_rfl
theorem walks_rt {A : Around} (hh : A.handled = none) (r t : Addr) (hne : t ≠ r) (items : Array Value) (hz : items.size ≤ sizeLine) :
    Walks prog w A r [r, t] [r] items.size (fun i v => items[items.size - 1 - i]? = some v) (fun i h => i ≤ items.size ∧ RT.IsRt h r t ((items.size : Int) - 1 - (i : Int)) ∧ IsTup h t items) where
  sub := fun b hb => by simp at hb; simp [hb]
  frame := fun _ _ _ x hk => ⟨x.1, x.2.1.at fun o e => hk r (by simp) o e, by
    obtain ⟨o, ho, q⟩ := x.2.2
    exact ⟨o, hk t (by simp) o ho, q⟩⟩
  item := fun i s Q E hi x hQ => by
    have hj : items.size - 1 - i < items.size := by omega
    have hx : items[items.size - 1 - i]? = some items[items.size - 1 - i] := Array.getElem?_eq_getElem hj
    have e1 : (items.size : Int) - 1 - (i : Int) = ((items.size - 1 - i : Nat) : Int) := by omega
    have h2 := x.2.1
    rw [e1] at h2
    refine RT.next_rt_item h2 x.2.2 hx hz fun h' st' sb => ?_
    have e2 : ((items.size - 1 - i : Nat) : Int) - 1 = (items.size : Int) - 1 - ((i + 1 : Nat) : Int) := by omega
    rw [e2] at st'
    refine hQ _ h' (s.toks + 1) hx ⟨by omega, st', ?_⟩ fun b o hb e => (sb.2 b (by simpa using hb)).trans e
    obtain ⟨o, ho, q⟩ := x.2.2
    exact ⟨o, (sb.2 t hne).trans ho, q⟩
  done := fun s Q E x hQ => by
    have h2 := x.2.1
    have e1 : (items.size : Int) - 1 - (items.size : Int) = -1 := by omega
    rw [e1] at h2
    exact RT.next_rt_end hh h2 fun h' eb => hQ h' s.toks fun b o hb e => eb b o (by simpa using hb) e
  self := fun i s Q E x h => RT.iter_rt x.2.1 h
theorem src_tup {t r : Addr} (items : Array Value) (hne : t ≠ r) (hz : items.size ≤ sizeLine) (hlen : ∀ (A : Around) (E : Value → Shared → Prop) (s : Shared) (Q : Value → Shared → Prop), IsTup s.heap t items → (∀ tk tk', Q (.int items.size tk') { s with toks := tk }) → wpAny (model prog w) A (call (.builtin "len") [.ref t]) Q E s) :
    Src prog w "reversed" r [r, t] items.size (fun i v => items[items.size - 1 - i]? = some v) (fun i h => i ≤ items.size ∧ RT.IsRt h r t ((items.size : Int) - 1 - (i : Int)) ∧ IsTup h t items) where
  walks := fun A hh => walks_rt hh r t hne items hz
  type := fun s st => st.2.1.typeIs
  there := fun h st b hb => by
    obtain ⟨_, ⟨o, ho, _⟩, ⟨o2, ho2, _⟩⟩ := st
    simp only [List.mem_cons, List.not_mem_nil, or_false] at hb
    rcases hb with rfl | rfl
    · exact Heap.lt_size ho
    · exact Heap.lt_size ho2
  notList := by decide
  notTuple := by decide
  hint := fun A E s Q st hq => by
    have hT := RT.IsRt.typeIs (s := s) st.2.1
    unfold Builtin.List.listLengthHint
    refine wpAny_bind (wpAny_specialOf hT nolen_rt ?_)
    show wpAny _ _ (specialOf (Value.ref r) (Str.ofString "__length_hint__") >>= _) _ _ _
    refine wpAny_bind (wpAny_specialOf hT hint_rt ?_)
    generalize hid : ("reversed.__length_hint__" : String) = id0
    wp_delta
    rw [show splitId id0 = some ("reversed", "__length_hint__") from by subst hid; decide +kernel]
    subst hid
    refine wpAny_bind (wpAny_isInstance (b := true) hT (by rw [isSubtype_type]; kernel_rfl) ?_)
    refine wpAny_ite_split (fun hab => absurd hab (by decide)) (fun _ => ?_)
    refine wpAny_ite_split (fun hab => absurd hab (by decide +kernel)) (fun _ => ?_)
    refine wpAny_bind (wpAny_rule ?_)
    refine wpAny_bind (wpAny_of_eq (slot_rt_hint.bind _) ?_)
    refine wpAny_bind (wpAny_attempt (wpAny_call_entry slot_rt_hint hT entry_rt_hint ?_ (args_rt_hint _)))
    obtain ⟨o, ho, hc, hd⟩ := id st.2.1
    unfold Builtin.«reversed.__length_hint__»
    refine wpAny_bind (wpAny_of_eq (a := Value.ref r) rfl ?_)
    refine wpAny_bind (wpAny_field ho hd (x := .ref t) rfl ?_)
    try dsimp only
    refine wpAny_ite_split (fun hab => absurd (show false = true from hab) (by decide)) (fun _ => ?_)
    refine wpAny_bind (hlen _ _ s _ st.2.2 fun tk tk' => ?_)
    refine wpAny_bind (wpAny_of_eq (a := some ((items.size : Nat) : Int)) rfl ?_)
    try dsimp only
    refine wpAny_bind (wpAny_field (s := { s with toks := tk }) ho hd (x := rawInt ((items.size : Int) - 1 - ((0 : Nat) : Int))) rfl ?_)
    have hz2 : items.size ≤ 16777216 := by rw [sizeLine_eq] at hz; exact hz
    show wpAny _ _ (if (items.size : Int) < (items.size : Int) - 1 - ((0 : Nat) : Int) + 1 then _ else _) _ _ _
    rw [if_neg (by omega)]
    have e1 : (items.size : Int) - 1 - ((0 : Nat) : Int) + 1 = (items.size : Int) := by omega
    rw [e1]
    show wpAny _ _ (mkInt (items.size : Int) >>= fun v => ret v) _ _ _
    refine wpAny_bind (wpAny_mkInt (wpAny_pure ⟨_, rfl, ?_⟩))
    dsimp only
    rw [show ∀ (i : Int) (t : Tok), asInt? (Value.int i t) = pure (some i) from fun _ _ => rfl, pure_bind]
    dsimp only
    have c1 : (!Builtin.List.listFitsIndex ((items.size : Nat) : Int)) = false := by
      unfold Builtin.List.listFitsIndex
      simp
      omega
    have c2 : ¬ ((items.size : Nat) : Int) < 0 := by omega
    have c3 : Builtin.List.listTooLong ((items.size : Nat) : Int).toNat = false := by
      rw [Int.toNat_natCast]
      exact L2.notLongL hz
    rw [c1]
    refine wpAny_ite_split (fun hab => absurd hab (by decide)) (fun _ => ?_)
    rw [if_neg c2]
    rw [c3]
    refine wpAny_ite_split (fun hab => absurd hab (by decide)) (fun _ => ?_)
    exact wpAny_pure (hq _ _)
end

/-- list(reversed(x)), x a list or a tuple: a new list -/
def tListRev (K : PySem.W.Frag) (te : TE) : TE := fun σ H Q => te σ H fun v H1 => ∃ (a : Addr) (xs : List V), v = .ref a ∧ (SqL K H1 a xs ∨ SqT K H1 a xs) ∧ ∀ q, H1 q = none → Q (.ref q) (upd H1 q (.lst xs.reverse))
theorem pe_listRev {X : Cx} {e : Expr} {te : TE} {p p2 pos pos2 : Pos} (hc : X.calm = true) (hg : Gl X "list") (hm : X.mg "list" = none) (hg2 : Gl X "reversed") (hm2 : X.mg "reversed" = none) (he : PE X e te)
    (hs : starEach [e] X.env = (false, eval e X.env) :: starEach [] X.env := by rfl)
    (hs2 : starEach [.Call (.Name "reversed" p2) [e] [] pos2] X.env = (false, eval (.Call (.Name "reversed" p2) [e] [] pos2) X.env) :: starEach [] X.env := by rfl) :
    PE X (.Call (.Name "list" p) [.Call (.Name "reversed" p2) [e] [] pos2] [] pos) (tListRev X.K te) := by
  refine ⟨fun pins s σ H Q I h => ?_⟩
  refine PyProof.Rows.Call_ (ld_blt I hg hm boot_list (PyProof.Rows.callWith_type1 (PyProof.Rows.args_cons (PyProof.Rows.Call_ (ld_blt I hg2 hm2 PyProof.Rows.boot_reversed (PyProof.Rows.callWith_type1 (PyProof.Rows.args_cons (thn (he.run pins s σ H _ I h) fun u s1 ⟨v, H1, I1, r1, q1⟩ => PyProof.Rows.args_nil ?_) hs) hs rfl))) hs2) hs2 rfl))
  obtain ⟨a, xs, ev, hq, q⟩ := q1
  subst ev
  obtain rfl : u = Value.ref a := r1
  have fin : ∀ (h' : Heap) (tk : Nat) (acc' : Array Value) (c' : Nat) (its : List Value) (r : Addr) (s2 : Shared), Vals xs its → xs.length ≤ sizeLine → Inv X pins σ H1 s2 → FpOk X pins H1 r →
      (∀ b o, b ≠ r → s2.heap.get? b = some o → h'.get? b = some o) → (∃ o, s2.heap.get? r = some o) → True → h'.get? s2.heap.objs.size = some { cls := .type "list", dict := none, data := .seq acc' c', slots := #[] } → ItemsOf (fun i v => its.toArray[its.toArray.size - 1 - i]? = some v) acc' its.toArray.size →
      EP X pins σ Q (.ref s2.heap.objs.size) { s2 with heap := h', toks := tk } := by
    intro h' tk acc' c' its r s2 rv hz I2 f hk hr hr2 hS hi
    obtain ⟨f0, f1, f2, f3, f4, f5⟩ := f
    have nD : H1 s2.heap.objs.size = none := I2.hok.fresh (Nat.le_refl _)
    have nr : ∀ {b : Addr} {o : HO}, H1 b = some o → b ≠ r := fun {b o} e => ne_of_none e f0
    have nd : ∀ {b : Addr} {o : Obj}, s2.heap.get? b = some o → b ≠ s2.heap.objs.size := fun {b o} e => Nat.ne_of_lt (Heap.lt_size e)
    have hok : HOk X.prog X.w (upd H1 s2.heap.objs.size (.lst xs.reverse)) h' := fun b o e => by
      by_cases hb : b = s2.heap.objs.size
      · subst hb
        rw [upd_same] at e
        cases e
        refine ⟨by rw [List.length_reverse]; exact hz, acc'.toList, c', RT.vals_rev rv hi, ?_⟩
        rw [hS, Array.toArray_toList]
      · rw [upd_ne hb] at e
        refine (I2.hok b o e).stay (fun c v hc q => hk c v ?_ q) (fun c q => by rw [upd_ne (ne_of_none q nD)]; exact q) fun c ys q => by rw [upd_ne (ne_of_none q nD)]; exact q
        rcases hc with hc | hc
        · rw [hc]
          exact nr e
        · exact nr hc
    have J : Inv X pins σ (upd H1 s2.heap.objs.size (.lst xs.reverse)) { s2 with heap := h', toks := tk } := by
      refine I2.step (g' := s2.gens) (d' := s2.drawn) (t' := tk) (ch := [r]) (fun b hb => ?_) (fun b o _ _ hc e _ => hk b o (fun z => hc (by simp [z])) e) (fun b o _ _ hc e _ => ⟨o.slots, hk b o (fun z => hc (by simp [z])) e⟩)
        (fun b o _ e n => by rw [upd_ne (nd e)]; exact n) (fun b o hc e => ⟨o, hk b o (fun z => hc (by simp [z])) e⟩) (fun b ys e => by rw [upd_ne (ne_of_none e nD)]; exact e) (fun b o u e => by rw [upd_ne (ne_of_none e nD)]; exact e)
        (fun b ps e => ⟨#[], by rw [upd_ne (ne_of_none e nD), e]; simp⟩) (fun m hm => ?_) hok I2.bare
      · obtain rfl : b = r := by simpa using hb
        exact ⟨f3, f1, f4, f5⟩
      · obtain ⟨o, es, ep, ho, q⟩ := hm
        exact ⟨o, es, ep, hk _ o (Ne.symm f1) ho, q⟩
    exact ⟨.ref s2.heap.objs.size, _, J, rfl, q _ nD⟩
  rcases hq with hq | hq
  · obtain ⟨its, rv, p', hz⟩ := I1.list hq
    refine call_reversed_list p'.isList (PyProof.Rows.args_nil ?_)
    have k0 : ∀ b o, s1.heap.get? b = some o → (s1.heap.push (revObj a ((its.toArray.size : Int) - 1))).get? b = some o := fun b o e => Heap.get?_push_of_some _ e
    have I2 : Inv X pins σ H1 { s1 with heap := s1.heap.push (revObj a ((its.toArray.size : Int) - 1)) } := I1.kept (t' := s1.toks) k0
    have f := I1.fpOk (H' := H1) (b := s1.heap.objs.size) (Nat.le_refl _) (I1.hok.fresh (Nat.le_refl _))
    have hl := p'.isList
    obtain ⟨ol, hol, _⟩ := id hl
    have hne : a ≠ s1.heap.objs.size := Nat.ne_of_lt (Heap.lt_size hol)
    have hn : its.toArray.size ≤ sizeLine := by rw [List.size_toArray, ← rv.length]; exact hz
    have hR : (s1.heap.push (revObj a ((its.toArray.size : Int) - 1))).get? s1.heap.objs.size = some (revObj a ((its.toArray.size : Int) - 1)) := Heap.get?_push_size _ rfl
    refine call_list (s := { s1 with heap := s1.heap.push (revObj a ((its.toArray.size : Int) - 1)) }) (src_list its.toArray hne) (I1.ok.hd hc) ⟨Nat.zero_le _, ⟨_, hR, rfl, by simp [revObj]⟩, hl.push _⟩ hn fun h' tk acc' c' hk hS hi => ?_
    exact fin h' tk acc' c' its s1.heap.objs.size { s1 with heap := s1.heap.push (revObj a ((its.toArray.size : Int) - 1)) } rv hz I2 f hk ⟨_, hR⟩ trivial hS hi
  · obtain ⟨its, rv, p', hz⟩ := I1.tuple hq
    have hn1 := line63
    have hn : its.toArray.size ≤ sizeLine := by rw [List.size_toArray, ← rv.length]; exact hz
    have hlen : ∀ (A : Around) (E : Value → Shared → Prop) (s : Shared) (Q : Value → Shared → Prop), IsTup s.heap a its.toArray → (∀ tk tk', Q (.int its.toArray.size tk') { s with toks := tk }) → wpAny (model X.prog X.w) A (call (.builtin "len") [.ref a]) Q E s :=
      fun A E s Q ht k => len_tuple ht (by omega) (k _ _)
    refine RT.call_reversed_tup p' (fun A E Q k => len_tuple p' (by omega) k) (PyProof.Rows.args_nil ?_)
    have k0 : ∀ b o, s1.heap.get? b = some o → (s1.heap.push (RT.rtObj a ((its.toArray.size : Int) - 1))).get? b = some o := fun b o e => Heap.get?_push_of_some _ e
    have I2 : Inv X pins σ H1 { s1 with heap := s1.heap.push (RT.rtObj a ((its.toArray.size : Int) - 1)), toks := s1.toks + 1 + 1 } := I1.kept (t' := s1.toks + 1 + 1) k0
    have f := I1.fpOk (H' := H1) (b := s1.heap.objs.size) (Nat.le_refl _) (I1.hok.fresh (Nat.le_refl _))
    obtain ⟨ol, hol, hol2⟩ := id p'
    have hne : a ≠ s1.heap.objs.size := Nat.ne_of_lt (Heap.lt_size hol)
    have hR : (s1.heap.push (RT.rtObj a ((its.toArray.size : Int) - 1))).get? s1.heap.objs.size = some (RT.rtObj a ((its.toArray.size : Int) - 1)) := Heap.get?_push_size _ rfl
    refine call_list (s := { s1 with heap := s1.heap.push (RT.rtObj a ((its.toArray.size : Int) - 1)), toks := s1.toks + 1 + 1 }) (src_tup its.toArray hne hn hlen) (I1.ok.hd hc) ⟨Nat.zero_le _, ⟨_, hR, rfl, by simp [RT.rtObj]⟩, ⟨ol, k0 _ _ hol, hol2⟩⟩ hn fun h' tk acc' c' hk hS hi => ?_
    exact fin h' tk acc' c' its s1.heap.objs.size { s1 with heap := s1.heap.push (RT.rtObj a ((its.toArray.size : Int) - 1)), toks := s1.toks + 1 + 1 } rv hz I2 f hk ⟨_, hR⟩ trivial hS hi
end Lrev

/-! Defs as plain functions of data: each construct is a pair of its reading and of a plain evaluator, with the proof that they agree. -/
namespace De
open PySem L2 Dx

structure Xc where
  x : Str
  p : PyData
/-- a field of an object: data, or a list of pairs (data, list), that the object alone has -/
inductive Fld where
  | d (x : PyData)
  | w (ps : List (PyData × List PyData))
/-- the script, the drawing state -/
structure Ds where
  scr : List Int
  st : List Int
  /-- the fields of the object -/
  fs : List Fld
  /-- the object's list is known -/
  pin : Bool
  /-- the texts of a list that stands at the state's place -/
  ss : List Str
abbrev Re (α : Type) := Option (Except Xc α × Ds)
/-- a slot: nothing; data; a list of one's own; the state; the script; a caught exception; any value -/
inductive En where
  | no
  | d (x : PyData)
  | own (ds : List PyData)
  | own2 (dss : List (List PyData))
  | st
  | scr
  | xc (e : Xc)
  | xl (es : List Xc)
  | own3 (ps : List (PyData × List PyData))
  | vl (v : V)
  | dk (ks : List Str)
  | ob
  /-- a closure: made here; handed over, with what it captured -/
  | fn (j : Nat) (cd : Option (List PyData))
abbrev Rho := List En
inductive Kd where
  | fz | pk | nw
structure Ct where
  K : PySem.W.Frag
  fam : Bool
  ca : Str → Addr
  fs : Str → V → List (Str × V)
  /-- the class of the object, its fields -/
  oc : Addr
  on : List Str
  /-- a world of methods -/
  md : Bool
  /-- the tables of code objects -/
  T : List NdefX.NTab
  /-- the texts of closures: the function with these cells, the text's names, the captured ones -/
  wf : Nat → List (Str × Addr) → Addr → Fv.FW
  nm : Nat → List (Str × NameKind)
  fu : Nat → List Str
  ji : List Nat
  /-- what stands at the object's place is a list of data -/
  lm : Bool
/-- objects stand at the object's place -/
class Ni (C : Ct) : Prop where
  h : C.lm = false
/-- a world with lists of a def's own -/
class Nw (C : Ct) : Prop where
  h : C.md = false
/-- where the state or the object lies, what an object may hold -/
structure Sx where
  a : Addr
  S : Addr → Prop
instance : CoeOut Sx Addr := ⟨Sx.a⟩
def Nt (s : Sx) (a : Addr) : Prop := a ≠ s.a ∧ ¬ s.S a

/-- where the script lies, what it holds -/
structure Ax where
  a : Addr
  cls : Value
  d : Option Addr
  /-- the cells of the closure that the def was handed (or the def's own), their names, what they hold -/
  cl : List (Str × Addr) := []
  fr : List Str := []
  cv : List V := []
structure Sq where
  a : Addr
  sc : List Int
  ax : Ax
  /-- the object's dict, where the object stands at s -/
  ob : Option Addr
  /-- the list that the object holds -/
  wl : Option Addr
/-- what is wished of exceptions; the caught one -/
structure Wc where
  W : WX
  ax : Ax
section
variable (C : Ct) (s : Sx) (q : Sq)
def stV (C : Ct) (q : Sq) (ds : Ds) : List V := (if C.fam = true then [V.ref q.a] else []) ++ (ds.st.map V.int ++ ds.ss.map V.str)
/-- no table of code objects (these may change) -/
def ntb : HO → Bool
  | .tbl _ => false
  | _ => true
/-- the script stands: read by all, or a thing of the module -/
def Scr (K : PySem.W.Frag) (H : Hp) (s : Sx) (a : Addr) (xs : List V) : Prop :=
  (Rd H a (.lst xs) ∧ Nt s a) ∨
    ∃ (o : Obj) (its : Array Value) (n : Nat), K.lookup a = some o ∧ o.cls = .type "list" ∧ o.dict = none ∧ o.data = .seq its n ∧ its.size ≤ sizeLine ∧ Vals xs its.toList
theorem Scr.sql {K : PySem.W.Frag} {H : Hp} {s : Sx} {a : Addr} {xs : List V} (h : Scr K H s a xs) : SqL K H a xs := h.elim (fun h => .inl h.1) fun h => .inr h
theorem Scr.keep {K : PySem.W.Frag} {H H' : Hp} {s : Sx} {a : Addr} {xs : List V} (e : ∀ a o, Nt s a → H a = some o → ntb o = true → H' a = some o) (h : Scr K H s a xs) : Scr K H' s a xs := by
  rcases h with ⟨h | ⟨o, h⟩, n⟩ | h
  · exact .inl ⟨.inl (e _ _ n h rfl), n⟩
  · exact .inl ⟨.inr ⟨o, e _ _ n h rfl⟩, n⟩
  · exact .inr h
/-- a list of pairs that an object holds -/
structure W3 (K : PySem.W.Frag) (s : Sx) (N : Addr → Prop) (H : Hp) (l : Addr) (ts : List (Addr × V × Addr)) (ps : List (PyData × List PyData)) : Prop where
  nn : ¬ N l
  sl : s.S l
  hl : H l = some (.lst (ts.map fun t => V.ref t.1))
  out : ∀ t, t ∈ ts → t.2.2 ≠ l
  nd : (ts.map fun t => t.2.2).Nodup
  len : ts.length = ps.length
  at_ : ∀ (j : Nat) (t : Addr × V × Addr) (p : PyData × List PyData), ts[j]? = some t → ps[j]? = some p → H t.1 = some (.tup [t.2.1, .ref t.2.2]) ∧ Rp K N H t.2.1 p.1 ∧ ¬ N t.2.2 ∧ s.S t.2.2 ∧ ∃ xs, H t.2.2 = some (.lst xs) ∧ RpAll K N H xs p.2
def FldR (K : PySem.W.Frag) (s : Sx) (o : Option Addr) (N : Addr → Prop) (H : Hp) (v : V) : Fld → Prop
  | .d x => Rp K N H v x
  | .w ps => ∃ l ts, v = .ref l ∧ (∀ z, o = some z → l = z) ∧ W3 K s N H l ts ps
/-- what stands at s: the drawing state, or an object -/
def StO (C : Ct) (s : Sx) (q : Sq) (N : Addr → Prop) (H : Hp) (ds : Ds) : Prop := match q.ob with
  | none => H s = some (.lst (stV C q ds))
  | some dx => ∃ vs, H s = some (if C.lm = true then .lst vs else .ins C.oc dx (C.on.zip vs)) ∧ (C.lm = true ∨ vs.length ≤ C.on.length) ∧ Paired (FldR C.K s q.wl N H) vs ds.fs
/-- neither a table nor a code object -/
def nex : HO → Bool
  | .tbl _ => false
  | .ext _ => false
  | _ => true
theorem tabs_upd {T : List NdefX.NTab} {H : Hp} {l : Addr} {u o : HO} (h : NdefX.TabsN T H) (hl : H l = some u) (nu : nex u = true) : NdefX.TabsN T (upd H l o) := fun p hp => by
  obtain ⟨ps, h1, h2, h3⟩ := h p hp
  have e : ∀ a x, nex x = false → H a = some x → upd H l o a = some x := fun a x nx hx => by
    rw [upd_ne (by rintro rfl; rw [hl] at hx; cases hx; rw [nu] at nx; cases nx)]
    exact hx
  refine ⟨ps, e _ _ rfl h1, h2, fun pos cv hc => ?_⟩
  obtain ⟨c, e1, e2⟩ := h3 pos cv hc
  exact ⟨c, e1, e _ _ rfl e2⟩
/-- what always holds: N's lists are there, the state lies at s, the script at q -/
structure Iv (N : Addr → Prop) (H : Hp) (ds : Ds) : Prop where
  na : ∀ a, N a → H a ≠ none
  ns : ¬ N s.a
  hs : StO C s q N H ds
  hq : Scr C.K H s q.a (q.sc.map V.int)
  sc : ds.scr = q.sc
  nS : C.md = false → ∀ a, ¬ s.S a
  sS : ¬ s.S s.a
  fS : C.md = true → ∀ a, H a = none → s.S a
  pn : ds.pin = q.wl.isSome
  tb : NdefX.TabsN C.T H
/-- what cannot be changed -/
def od : HO → Bool
  | .lst _ => false
  | .ins _ _ _ => false
  | .dK _ => false
  | .tbl _ => false
  | _ => true
theorem ntb_od {o : HO} (h : od o = true) : ntb o = true := by
  cases o <;> first | rfl | cases h
/-- from N, H to N', H': all but s and what an object may hold is kept, new lists are frozen -/
structure Xt (N : Addr → Prop) (H : Hp) (N' : Addr → Prop) (H' : Hp) : Prop where
  kp0 : ∀ a o, Nt s a → H a = some o → ntb o = true → H' a = some o
  kq0 : ∀ a o, s.S a → (od o = true ∨ N a) → H a = some o → ntb o = true → H' a = some o
  ks : ∀ a, H a ≠ none → H' a ≠ none
  nn : ∀ a, N a → N' a
  nw : ∀ a, N' a → N a ∨ H a = none ∨ s.S a
end
section
variable {C : Ct} {s : Sx} {q : Sq} {N N1 N2 N' : Addr → Prop} {H H1 H2 H' : Hp} {ds ds' : Ds} {v : V} {x : PyData} {vs : List V} {xs : List PyData}
theorem Xt.kp (e : Xt s N H N' H') (a : Addr) (o : HO) (n : Nt s a) (h : H a = some o) (_h : ntb o = true := by rfl) : H' a = some o := e.kp0 a o n h _h
theorem Xt.kq (e : Xt s N H N' H') (a : Addr) (o : HO) (n : s.S a) (g : od o = true ∨ N a) (h : H a = some o) (_h : ntb o = true := by rfl) : H' a = some o := e.kq0 a o n g h _h
theorem Xt.refl : Xt s N H N H := ⟨fun _ _ _ h _ => h, fun _ _ _ _ h _ => h, fun _ h => h, fun _ h => h, fun _ h => .inl h⟩
/-- what cannot be changed, is frozen, is kept -/
theorem Xt.kt (e : Xt s N H N' H') {a : Addr} {o : HO} (h : od o = true ∨ N a) (hs : a ≠ s.a) (ha : H a = some o) (_h : ntb o = true := by rfl) : H' a = some o := by
  by_cases z : s.S a
  · exact e.kq a o z h ha _h
  · exact e.kp a o ⟨hs, z⟩ ha _h
theorem Xt.free (e : Xt s N H N' H') {a : Addr} (h : H' a = none) : H a = none := by
  cases ha : H a with
  | none => rfl
  | some o => exact absurd h (e.ks a (by rw [ha]; exact fun z => by cases z))
theorem Xt.trans (a : Xt s N H N1 H1) (b : Xt s N1 H1 N2 H2) : Xt s N H N2 H2 :=
  ⟨fun c o n h t => b.kp c o n (a.kp c o n h t) t, fun c o n g h t => b.kq c o n (g.imp id (a.nn c)) (a.kq c o n g h t) t, fun c h => b.ks c (a.ks c h), fun c h => b.nn c (a.nn c h), fun c h => (b.nw c h).elim (fun h => a.nw c h) fun h => .inr (h.imp a.free id)⟩
theorem Xt.sqN {K : PySem.W.Frag} (e : Xt s N H N' H') (hs : ∀ o, H s = some o → od o = true → False) {a : Addr} {xs : List V} (h : Tn.SqN K H a xs) : Tn.SqN K H' a xs := by
  rcases h with ⟨o, h, hd⟩ | h
  · exact .inl ⟨o, e.kt (.inl rfl) (by rintro rfl; exact hs _ h rfl) h, hd⟩
  · exact .inr h
theorem Xt.sqT {K : PySem.W.Frag} (e : Xt s N H N' H') (hs : ∀ o, H s = some o → od o = true → False) {a : Addr} {xs : List V} (h : SqT K H a xs) : SqT K H' a xs := by
  rcases h with (h | ⟨o, h⟩) | h
  · exact .inl (.inl (e.kt (.inl rfl) (by rintro rfl; exact hs _ h rfl) h))
  · exact .inl (.inr ⟨o, e.kt (.inl rfl) (by rintro rfl; exact hs _ h rfl) h⟩)
  · exact .inr h
section
variable {K : PySem.W.Frag}
mutual
theorem rp_xt (e : Xt s N H N' H') (hs : ∀ o, H s = some o → od o = true → False) (hn : ¬ N s) : ∀ {d : PyData} {v : V}, Rp K N H v d → Rp K N' H' v d
  | _, _, .non => .non
  | _, _, .bl b => .bl b
  | _, _, .int i => .int i
  | _, _, .str x => .str x
  | _, _, .lst n h r => .lst (e.nn _ n) (e.kt (.inr n) (by rintro rfl; exact hn n) h) (rps_xt e hs hn r)
  | _, _, .tup h r => .tup (e.sqN hs h) (rps_xt e hs hn r)
  | _, _, .dic n h r l z => .dic (e.nn _ n) (e.kt (.inr n) (by rintro rfl; exact hn n) h) (rps_xt e hs hn r) l z
  | _, _, .obj n h r l z => .obj (e.nn _ n) (e.kt (.inr n) (by rintro rfl; exact hn n) h) (rps_xt e hs hn r) l z
theorem rps_xt (e : Xt s N H N' H') (hs : ∀ o, H s = some o → od o = true → False) (hn : ¬ N s) : ∀ {ds : List PyData} {vs : List V}, RpAll K N H vs ds → RpAll K N' H' vs ds
  | _, _, .nil => .nil
  | _, _, .cons h r => .cons (rp_xt e hs hn h) (rps_xt e hs hn r)
end
/-! a list that is not frozen is changed -/
mutual
theorem rp_mut {l : Addr} {us : List V} {o : HO} (hl : H l = some (.lst us)) (hn : ¬ N l) : ∀ {d : PyData} {v : V}, Rp K N H v d → Rp K N (upd H l o) v d
  | _, _, .non => .non
  | _, _, .bl b => .bl b
  | _, _, .int i => .int i
  | _, _, .str x => .str x
  | _, _, .lst n h r => .lst n (by rw [upd_ne (by rintro rfl; exact hn n)]; exact h) (rps_mut hl hn r)
  | _, _, .tup h r => .tup (sqN_upd hl h) (rps_mut hl hn r)
  | _, _, .dic n h r l z => .dic n (by rw [upd_ne (by rintro rfl; exact hn n)]; exact h) (rps_mut hl hn r) l z
  | _, _, .obj n h r l z => .obj n (by rw [upd_ne (by rintro rfl; exact hn n)]; exact h) (rps_mut hl hn r) l z
theorem rps_mut {l : Addr} {us : List V} {o : HO} (hl : H l = some (.lst us)) (hn : ¬ N l) : ∀ {ds : List PyData} {vs : List V}, RpAll K N H vs ds → RpAll K N (upd H l o) vs ds
  | _, _, .nil => .nil
  | _, _, .cons h r => .cons (rp_mut hl hn h) (rps_mut hl hn r)
end
end
theorem StO.fr (h : StO C s q N H ds) : H s ≠ none ∧ ∀ o, H s = some o → od o = true → False := by
  unfold StO at h
  split at h
  · rw [h]
    exact ⟨fun z => (by cases z), fun o z g => (by cases z; cases g)⟩
  · obtain ⟨vs, h, _⟩ := h
    rw [h]
    refine ⟨fun z => (by cases z), fun o z g => ?_⟩
    cases z
    split at g <;> cases g
theorem Iv.nf (I : Iv C s q N H ds) (h : H s = none) : False := I.hs.fr.1 h
theorem Iv.nt [Nw C] {l : Addr} (I : Iv C s q N H ds) (h : H l = none) : Nt s l := ⟨by rintro rfl; exact I.nf h, I.nS Nw.h l⟩
theorem Iv.sl (I : Iv C s q N H ds) : ∀ o, H s = some o → od o = true → False := I.hs.fr.2
theorem Iv.lst (I : Iv C s q N H ds) (h : q.ob = none) : H s = some (.lst (stV C q ds)) := by
  have z := I.hs
  unfold StO at z
  rw [h] at z
  exact z
theorem W3.mono {K : PySem.W.Frag} {l : Addr} {ts : List (Addr × V × Addr)} {ps : List (PyData × List PyData)} (h : W3 K s N H l ts ps) (ht : ∀ a o, od o = true → H a = some o → H' a = some o) (hS : ∀ a o, s.S a → H a = some o → ntb o = true → H' a = some o) (hN : ∀ a, s.S a → H a ≠ none → N' a → N a) (hr : ∀ v x, Rp K N H v x → Rp K N' H' v x) (hr2 : ∀ v x, RpAll K N H v x → RpAll K N' H' v x) : W3 K s N' H' l ts ps :=
  ⟨fun z => h.nn (hN _ h.sl (by rw [h.hl]; exact fun z => by cases z) z), h.sl, hS _ _ h.sl h.hl rfl, h.out, h.nd, h.len, fun j t p e1 e2 => by
    obtain ⟨h1, h2, h3, h4, xs, h5, h6⟩ := h.at_ j t p e1 e2
    exact ⟨ht _ _ rfl h1, hr _ _ h2, fun z => h3 (hN _ h4 (by rw [h5]; exact fun z => by cases z) z), h4, xs, hS _ _ h4 h5 rfl, hr2 _ _ h6⟩⟩
/-- what stands at s is kept where s and what it names is kept -/
theorem StO.mono (h : StO C s q N H ds) (hs : ∀ o, H s = some o → ntb o = true → H' s = some o) (ht : ∀ a o, od o = true → H a = some o → H' a = some o) (hS : ∀ a o, s.S a → H a = some o → ntb o = true → H' a = some o) (hN : ∀ a, s.S a → H a ≠ none → N' a → N a) (hr : ∀ v x, Rp C.K N H v x → Rp C.K N' H' v x) (hr2 : ∀ v x, RpAll C.K N H v x → RpAll C.K N' H' v x) : StO C s q N' H' ds := by
  unfold StO at h ⊢
  split at h
  · exact hs _ h rfl
  · obtain ⟨vs, h1, h2, h3⟩ := h
    refine ⟨vs, hs _ h1 (by split <;> rfl), h2, ?_⟩
    clear h1 h2
    generalize ds.fs = fs at h3 ⊢
    induction h3 with
    | nil => exact .nil
    | @cons v f _ _ h4 _ ih =>
      refine .cons ?_ ih
      cases f with
      | d x => exact hr _ _ h4
      | w ps =>
        obtain ⟨l, ts, e, ez, h5⟩ := h4
        exact ⟨l, ts, e, ez, h5.mono ht hS hN hr hr2⟩
theorem Iv.rp (I : Iv C s q N H ds) (e : Xt s N H N' H') (h : Rp C.K N H v x) : Rp C.K N' H' v x := rp_xt e I.sl I.ns h
theorem Iv.rps (I : Iv C s q N H ds) (e : Xt s N H N' H') (h : RpAll C.K N H vs xs) : RpAll C.K N' H' vs xs := rps_xt e I.sl I.ns h
/-- something new is laid, nothing of it is frozen -/
theorem upd_none {H : Hp} {l a : Addr} {o : HO} (h : upd H l o a = none) : H a = none := by
  by_cases e : a = l
  · subst e; rw [upd_same] at h; cases h
  · rw [upd_ne e] at h; exact h
theorem Xt.same (e : Same H H') : Xt s N H N H' := by
  refine ⟨fun a o _ h _ => e a o h, fun a o _ _ h _ => e a o h, fun a z => ?_, fun _ h => h, fun _ h => .inl h⟩
  cases h : H a with
  | none => exact absurd h z
  | some o => rw [e a o h]; exact fun z => by cases z
theorem Xt.new {p : Addr} {o : HO} (h : H p = none) : Xt s N H N (upd H p o) := Xt.same (same_new h)
theorem Iv.same (I : Iv C s q N H ds) (e : Same H H') : Iv C s q N H' ds := by
  refine ⟨fun a n z => ?_, I.ns, I.hs.mono (fun o h _ => e s o h) (fun a o _ h => e a o h) (fun a o _ h _ => e a o h) (fun _ _ _ h => h) (fun _ _ h => I.rp (Xt.same e) h) (fun _ _ h => I.rps (Xt.same e) h), I.hq.keep fun a o _ h _ => e a o h, I.sc, I.nS, I.sS, fun m a h => I.fS m a ((Xt.same (s := s) (N := N) e).free h), I.pn, fun p hp => (I.tb p hp).ext e⟩
  · cases h : H a with
    | none => exact I.na a n h
    | some o => rw [e a o h] at z; cases z
theorem Iv.new (I : Iv C s q N H ds) {p : Addr} {o : HO} (h : H p = none) : Iv C s q N (upd H p o) ds := I.same (same_new h)
/-- a list that is there is frozen -/
def fzN (N : Addr → Prop) (l : Addr) : Addr → Prop := fun a => N a ∨ a = l
theorem Xt.frz {l : Addr} (h : H l = none) (e : Xt s N H N' H') : Xt s N H (fzN N' l) H' := by
  refine ⟨e.kp0, e.kq0, e.ks, fun a h => .inl (e.nn a h), fun a h' => ?_⟩
  rcases h' with h' | rfl
  · exact e.nw a h'
  · exact .inr (.inl h)
section
variable {K : PySem.W.Frag}
mutual
theorem rp_N (m : ∀ a, N a → N' a) : ∀ {d : PyData} {v : V}, Rp K N H v d → Rp K N' H v d
  | _, _, .non => .non
  | _, _, .bl b => .bl b
  | _, _, .int i => .int i
  | _, _, .str x => .str x
  | _, _, .lst n h r => .lst (m _ n) h (rps_N m r)
  | _, _, .tup h r => .tup h (rps_N m r)
  | _, _, .dic n h r l z => .dic (m _ n) h (rps_N m r) l z
  | _, _, .obj n h r l z => .obj (m _ n) h (rps_N m r) l z
theorem rps_N (m : ∀ a, N a → N' a) : ∀ {ds : List PyData} {vs : List V}, RpAll K N H vs ds → RpAll K N' H vs ds
  | _, _, .nil => .nil
  | _, _, .cons h r => .cons (rp_N m h) (rps_N m r)
end
end
theorem Iv.frz (I : Iv C s q N H ds) {l : Addr} {us : List V} (h : H l = some (.lst us)) (n : Nt s l) : Iv C s q (fzN N l) H ds := ⟨fun a z => Or.elim z (I.na a) (fun z => by subst z; rw [h]; exact fun z => by cases z), fun z => Or.elim z I.ns (fun z => n.1 z.symm), I.hs.mono (fun _ h _ => h) (fun _ _ _ h => h) (fun _ _ _ h _ => h) (fun a z _ h => h.elim id fun e => absurd (e ▸ z) n.2) (fun _ _ h => rp_N (fun _ h => .inl h) h) (fun _ _ h => rps_N (fun _ h => .inl h) h), I.hq, I.sc, I.nS, I.sS, I.fS, I.pn, I.tb⟩
theorem rp_fz {K : PySem.W.Frag} {l : Addr} (h : Rp K N H v x) : Rp K (fzN N l) H v x := rp_N (fun _ h => .inl h) h
theorem rps_fz {K : PySem.W.Frag} {l : Addr} (h : RpAll K N H vs xs) : RpAll K (fzN N l) H vs xs := rps_N (fun _ h => .inl h) h

/-- what is not there at the start is changed -/
theorem Xt.updO {N0 : Addr → Prop} {H0 : Hp} {l : Addr} {o : HO} (X : Xt s N0 H0 N H) (h0 : H0 l = none) : Xt s N0 H0 N (upd H l o) :=
  ⟨fun a o n h t => by rw [upd_ne (ne_of_none h h0)]; exact X.kp a o n h t, fun a o z g h t => by rw [upd_ne (ne_of_none h h0)]; exact X.kq a o z g h t, fun a h => by
    by_cases e : a = l
    · subst e; rw [upd_same]; exact fun z => by cases z
    · rw [upd_ne e]; exact X.ks a h, X.nn, X.nw⟩
theorem StO.updO {l : Addr} {us : List V} {o : HO} (h : StO C s q N H ds) (hl : H l = some (.lst us)) (hn : ¬ N l) (ls : Nt s l) : StO C s q N (upd H l o) ds :=
  h.mono (fun o h _ => by rw [upd_ne ls.1.symm]; exact h) (fun a o g h => by rw [upd_ne (by rintro rfl; rw [hl] at h; cases h; cases g)]; exact h) (fun a o z h _ => by rw [upd_ne (by rintro rfl; exact ls.2 z)]; exact h) (fun _ _ _ h => h) (fun _ _ h => rp_mut hl hn h) (fun _ _ h => rps_mut hl hn h)
/-- a list is kept: one's own or frozen -/
theorem Xt.kl (e : Xt s N H N' H') {l : Addr} {o : HO} (h : Nt s l ∨ N l ∧ l ≠ s.a) (ha : H l = some o) (_h : ntb o = true := by rfl) : H' l = some o := h.elim (fun h => e.kp l o h ha _h) fun h => e.kt (.inr h.1) h.2 ha _h

/-! ### slots -/
/-- a list that is not frozen -/
structure Lw (K : PySem.W.Frag) (s : Sx) (N : Addr → Prop) (H : Hp) (l : Addr) (xs : List V) (ds : List PyData) : Prop where
  nn : ¬ N l
  ls : Nt s l
  hl : H l = some (.lst xs)
  r : RpAll K N H xs ds
theorem Lw.xt {l : Addr} {xs : List V} {es : List PyData} (I : Iv C s q N H ds) (e : Xt s N H N' H') (h : Lw C.K s N H l xs es) : Lw C.K s N' H' l xs es :=
  ⟨fun z => Or.elim (e.nw l z) h.nn (fun z => z.elim (fun z => by rw [h.hl] at z; cases z) h.ls.2), h.ls, e.kp _ _ h.ls h.hl, I.rps e h.r⟩
/-- exceptions: their class, their fields -/
def XcR (C : Ct) (N : Addr → Prop) (H : Hp) (d : Addr) (e : Xc) : Prop := ∃ p, Rp C.K N H p e.p ∧ H d = some (.xd (C.fs e.x p))
/-- a list of one's own of lists of one's own -/
structure O2 (K : PySem.W.Frag) (s : Sx) (H0 : Hp) (N : Addr → Prop) (H : Hp) (l : Addr) (ls : List Addr) (dss : List (List PyData)) : Prop where
  h0 : H0 l = none
  nn : ¬ N l
  sl : Nt s l
  hl : H l = some (.lst (ls.map V.ref))
  out : l ∉ ls
  nd : ls.Nodup
  len : ls.length = dss.length
  at_ : ∀ (j : Nat) (a : Addr) (ds : List PyData), ls[j]? = some a → dss[j]? = some ds → H0 a = none ∧ ∃ xs, Lw K s N H a xs ds
theorem O2.xt {l : Addr} {ls : List Addr} {dss : List (List PyData)} {H0 : Hp} (I : Iv C s q N H ds) (e : Xt s N H N' H') (h : O2 C.K s H0 N H l ls dss) : O2 C.K s H0 N' H' l ls dss :=
  ⟨h.h0, fun z => Or.elim (e.nw l z) h.nn (fun z => z.elim (fun z => by rw [h.hl] at z; cases z) h.sl.2), h.sl, e.kp _ _ h.sl h.hl, h.out, h.nd, h.len, fun j a es h1 h2 => by
    obtain ⟨h3, xs, h4⟩ := h.at_ j a es h1 h2
    exact ⟨h3, xs, h4.xt I e⟩⟩
/-- a list of one's own of pairs (data, a list of one's own) -/
structure O3 (K : PySem.W.Frag) (s : Sx) (H0 : Hp) (N : Addr → Prop) (H : Hp) (l : Addr) (ts : List (Addr × V × Addr)) (ps : List (PyData × List PyData)) : Prop where
  h0 : H0 l = none
  nn : ¬ N l
  sl : Nt s l
  hl : H l = some (.lst (ts.map fun t => V.ref t.1))
  out : ∀ t, t ∈ ts → t.2.2 ≠ l
  nd : (ts.map fun t => t.2.2).Nodup
  len : ts.length = ps.length
  at_ : ∀ (j : Nat) (t : Addr × V × Addr) (p : PyData × List PyData), ts[j]? = some t → ps[j]? = some p → H t.1 = some (.tup [t.2.1, .ref t.2.2]) ∧ Rp K N H t.2.1 p.1 ∧ H0 t.2.2 = none ∧ ∃ xs, Lw K s N H t.2.2 xs p.2
theorem O3.xt {l : Addr} {ts : List (Addr × V × Addr)} {ps : List (PyData × List PyData)} {H0 : Hp} (I : Iv C s q N H ds) (e : Xt s N H N' H') (h : O3 C.K s H0 N H l ts ps) : O3 C.K s H0 N' H' l ts ps :=
  ⟨h.h0, fun z => Or.elim (e.nw l z) h.nn (fun z => z.elim (fun z => by rw [h.hl] at z; cases z) h.sl.2), h.sl, e.kp _ _ h.sl h.hl, h.out, h.nd, h.len, fun j t p h1 h2 => by
    obtain ⟨h3, h4, h5, xs, h6⟩ := h.at_ j t p h1 h2
    exact ⟨e.kt (.inl rfl) (fun z => I.sl _ (by rw [← z]; exact h3) rfl) h3, I.rp e h4, h5, xs, h6.xt I e⟩⟩
theorem O3.tup {K : PySem.W.Frag} {l : Addr} {ts : List (Addr × V × Addr)} {ps : List (PyData × List PyData)} {H0 : Hp} (h : O3 K s H0 N H l ts ps) {t : Addr × V × Addr} (ht : t ∈ ts) : H t.1 = some (.tup [t.2.1, .ref t.2.2]) := by
  obtain ⟨j, hj, e⟩ := List.mem_iff_getElem.mp ht
  have hj2 : j < ps.length := by rw [← h.len]; exact hj
  exact (h.at_ j t ps[j] (by rw [List.getElem?_eq_getElem hj, e]) (List.getElem?_eq_getElem hj2)).1
theorem trs_inj : ∀ {ts us : List (Addr × V × Addr)}, (ts.map fun t => V.ref t.1) = (us.map fun t => V.ref t.1) → (∀ t, t ∈ ts → H t.1 = some (.tup [t.2.1, .ref t.2.2])) → (∀ t, t ∈ us → H t.1 = some (.tup [t.2.1, .ref t.2.2])) → ts = us
  | [], [], _, _, _ => rfl
  | [], _ :: _, h, _, _ => by cases h
  | _ :: _, [], h, _, _ => by cases h
  | (a, u, c) :: ts, (b, v, d) :: us, h, h1, h2 => by
    injection h with h3 h4
    injection h3 with h3
    have h3' : a = b := h3
    subst h3'
    have e1 := h1 _ List.mem_cons_self
    have e2 := h2 _ List.mem_cons_self
    have e3 : some (HO.tup [u, V.ref c]) = some (HO.tup [v, V.ref d]) := e1.symm.trans e2
    injection e3 with e3
    injection e3 with e3
    injection e3 with e4 e5
    injection e5 with e5
    injection e5 with e5
    subst e4 e5
    rw [trs_inj h4 (fun t ht => h1 t (List.mem_cons_of_mem _ ht)) fun t ht => h2 t (List.mem_cons_of_mem _ ht)]
/-- an exception that is a value -/
def XvR (C : Ct) (N : Addr → Prop) (H : Hp) (v : V) (e : Xc) : Prop := ∃ (a d : Addr) (p : V), v = .ref a ∧ H a = some (exo a (C.ca e.x) (some d)) ∧ H d = some (exd d (C.fs e.x p)) ∧ Rp C.K N H p e.p
theorem exo_lst {e c : Addr} {d : Option Addr} {xs : List V} : exo e c d ≠ .lst xs := fun z => by
  have z' : HO.ext _ = HO.lst xs := z
  cases z'
theorem exd_lst {e : Addr} {fs : List (Str × V)} {xs : List V} : exd e fs ≠ .lst xs := fun z => by
  have z' : HO.ext _ = HO.lst xs := z
  cases z'
theorem paired_imp {α β : Type} {F G : α → β → Prop} (m : ∀ x y, F x y → G x y) : ∀ {xs : List α} {ys : List β}, Paired F xs ys → Paired G xs ys
  | _, _, .nil => .nil
  | _, _, .cons h r => .cons (m _ _ h) (paired_imp m r)
theorem XvR.xt {v : V} {e : Xc} (I : Iv C s q N H ds) (x : Xt s N H N' H') (h : XvR C N H v e) : XvR C N' H' v e := by
  obtain ⟨a, d, p, h1, h2, h3, h4⟩ := h
  exact ⟨a, d, p, h1, x.kt (.inl rfl) (by rintro rfl; exact I.sl _ h2 rfl) h2, x.kt (.inl rfl) (by rintro rfl; exact I.sl _ h3 rfl) h3, I.rp x h4⟩
theorem XvR.chg {l : Addr} {us : List V} {w : HO} {v : V} {e : Xc} (hl : H l = some (.lst us)) (hn : ¬ N l) (h : XvR C N H v e) : XvR C N (upd H l w) v e := by
  obtain ⟨a, d, p, h1, h2, h3, h4⟩ := h
  exact ⟨a, d, p, h1, by rw [upd_ne (by rintro rfl; rw [hl] at h2; exact exo_lst (Option.some.inj h2).symm)]; exact h2, by rw [upd_ne (by rintro rfl; rw [hl] at h3; exact exd_lst (Option.some.inj h3).symm)]; exact h3, rp_mut hl hn h4⟩
theorem XvR.fz {l : Addr} {v : V} {e : Xc} (h : XvR C N H v e) : XvR C (fzN N l) H v e := by
  obtain ⟨a, d, p, h1, h2, h3, h4⟩ := h
  exact ⟨a, d, p, h1, h2, h3, rp_fz h4⟩
/-- the closure of the text j stands at f -/
structure FwAt (C : Ct) (H : Hp) (f : Addr) (j : Nat) (cl : List (Str × Addr)) (c : Addr) : Prop where
  o : H f = some (Fv.FwO f (C.wf j cl c))
  k : H (C.wf j cl c).nf.c = some (LamX.CodeO (C.wf j cl c).nf.c (C.wf j cl c).nf.qual)
theorem FwAt.of {f c : Addr} {j : Nat} {cl : List (Str × Addr)} (e : ∀ a φ, H a = some (.ext φ) → H' a = some (.ext φ)) (h : FwAt C H f j cl c) : FwAt C H' f j cl c := ⟨e _ _ h.o, e _ _ h.k⟩
theorem FwAt.upd {f c l : Addr} {j : Nat} {cl : List (Str × Addr)} {o w : HO} (hl : H l = some o) (no : ∀ φ, o ≠ .ext φ) (h : FwAt C H f j cl c) : FwAt C (upd H l w) f j cl c := h.of fun a φ e => by
  rw [upd_ne (by rintro rfl; rw [hl] at e; exact no φ (Option.some.inj e))]
  exact e
theorem FwAt.xt {f c : Addr} {j : Nat} {cl : List (Str × Addr)} (I : Iv C s q N H ds) (x : Xt s N H N' H') (h : FwAt C H f j cl c) : FwAt C H' f j cl c := h.of fun a φ e => x.kt (.inl rfl) (by rintro rfl; exact I.sl _ e rfl) e
def EnR (C : Ct) (s : Sx) (q : Sq) (H0 : Hp) (N : Addr → Prop) (H : Hp) : En → Option V → Prop
  | .no, _ => True
  | .d x, o => ∃ v, o = some v ∧ Rp C.K N H v x
  | .own ds, o => ∃ l xs, o = some (.ref l) ∧ H0 l = none ∧ Lw C.K s N H l xs ds
  | .own2 dss, o => ∃ l ls, o = some (.ref l) ∧ O2 C.K s H0 N H l ls dss
  | .st, o => o = some (.ref s) ∧ q.ob = none
  | .scr, o => o = some (.ref q.a)
  | .xc e, o => o = some (.ref q.ax.a) ∧ q.ax.cls = .ref (C.ca e.x) ∧ ∃ dd, q.ax.d = some dd ∧ XcR C N H dd e
  | .xl es, o => ∃ l vs, o = some (.ref l) ∧ N l ∧ H l = some (.lst vs) ∧ Paired (XvR C N H) vs es
  | .own3 ps, o => ∃ l ts, o = some (.ref l) ∧ O3 C.K s H0 N H l ts ps
  | .vl v, o => o = some v
  | .dk ks, o => ∃ p, o = some (.ref p) ∧ H0 p = none ∧ Nt s p ∧ ¬ N p ∧ H p = some (.dK (ks.map fun k => (Sum.inr k, V.bl true)))
  | .ob, o => o = some (.ref s) ∧ ∃ dx, q.ob = some dx
  | .fn j none, o => ∃ f c, o = some (.ref f) ∧ FwAt C H f j (cloFrom q.ax.cl (C.nm j) []) c
  | .fn j (some cd), o => ∃ f c, o = some (.ref f) ∧ FwAt C H f j q.ax.cl c ∧ q.ax.fr = C.fu j ∧ RpAll C.K N H q.ax.cv cd
def full : Hp := fun _ => some (.lst [])
/-- what is a slot's own -/
def Ow (H : Hp) : En → Option V → Addr → Prop
  | .own _, o, a => o = some (.ref a)
  | .own2 _, o, a => ∃ (l : Addr) (ls : List Addr), o = some (.ref l) ∧ H l = some (.lst (ls.map V.ref)) ∧ (a = l ∨ a ∈ ls)
  | .own3 _, o, a => ∃ (l : Addr) (ts : List (Addr × V × Addr)), o = some (.ref l) ∧ H l = some (.lst (ts.map fun t => V.ref t.1)) ∧ (∀ t, t ∈ ts → H t.1 = some (.tup [t.2.1, .ref t.2.2])) ∧ (a = l ∨ ∃ t, t ∈ ts ∧ a = t.2.2)
  | _, _, _ => False
structure Ev (C : Ct) (s : Sx) (q : Sq) (H0 : Hp) (N : Addr → Prop) (H : Hp) (σ : L2.St) (ρ : Rho) : Prop where
  len : σ.length = ρ.length
  at_ : ∀ (i : Nat) (e : En) (o : Option V), ρ[i]? = some e → σ[i]? = some o → EnR C s q H0 N H e o
  dis : ∀ (i j : Nat) (e f : En) (o u : Option V) (a : Addr), i ≠ j → ρ[i]? = some e → ρ[j]? = some f → σ[i]? = some o → σ[j]? = some u → Ow H e o a → Ow H f u a → False
theorem refs_inj : ∀ {ls ms : List Addr}, ls.map V.ref = ms.map V.ref → ls = ms
  | [], [], _ => rfl
  | [], _ :: _, h => by cases h
  | _ :: _, [], h => by cases h
  | a :: ls, b :: ms, h => by
    injection h with h1 h2
    injection h1 with h1
    rw [h1, refs_inj h2]
theorem EnR.ow {H0 : Hp} {e : En} {o : Option V} {a : Addr} (r : EnR C s q H0 N H e o) (w : Ow H e o a) : (∃ xs, H a = some (.lst xs)) ∧ ¬ N a ∧ Nt s a ∧ H0 a = none := by
  cases e with
  | own ds =>
    obtain ⟨l, xs, h1, h2, h3⟩ := r
    cases (show o = some (.ref a) from w)
    cases h1
    exact ⟨⟨xs, h3.hl⟩, h3.nn, h3.ls, h2⟩
  | own2 dss =>
    obtain ⟨l, ls, h1, h2⟩ := r
    obtain ⟨l', ls', h3, h4, h5⟩ := w
    rw [h1] at h3
    cases h3
    rcases h5 with rfl | h5
    · exact ⟨⟨_, h2.hl⟩, h2.nn, h2.sl, h2.h0⟩
    · rw [h2.hl] at h4
      injection h4 with h4
      injection h4 with h4
      cases refs_inj h4
      obtain ⟨j, hj, ej⟩ := List.mem_iff_getElem.mp h5
      have hj2 : j < dss.length := by rw [← h2.len]; exact hj
      obtain ⟨h6, xs, h7⟩ := h2.at_ j a dss[j] (by rw [List.getElem?_eq_getElem hj, ej]) (List.getElem?_eq_getElem hj2)
      exact ⟨⟨xs, h7.hl⟩, h7.nn, h7.ls, h6⟩
  | no => exact w.elim
  | d x => exact w.elim
  | st => exact w.elim
  | scr => exact w.elim
  | xc e => exact w.elim
  | xl es => exact w.elim
  | vl v => exact w.elim
  | dk ks => exact w.elim
  | ob => exact w.elim
  | fn j cd => exact w.elim
  | own3 ps =>
    obtain ⟨l, ts, h1, h2⟩ := r
    obtain ⟨l', ts', h3, h4, h5, h6⟩ := w
    rw [h1] at h3
    cases h3
    rcases h6 with rfl | ⟨t, ht, rfl⟩
    · exact ⟨⟨_, h2.hl⟩, h2.nn, h2.sl, h2.h0⟩
    · rw [h2.hl] at h4
      injection h4 with h4
      injection h4 with h4
      cases trs_inj h4 (fun t ht => h2.tup ht) h5
      obtain ⟨j, hj, ej⟩ := List.mem_iff_getElem.mp ht
      have hj2 : j < ps.length := by rw [← h2.len]; exact hj
      obtain ⟨_, _, h6, xs, h7⟩ := h2.at_ j t ps[j] (by rw [List.getElem?_eq_getElem hj, ej]) (List.getElem?_eq_getElem hj2)
      exact ⟨⟨xs, h7.hl⟩, h7.nn, h7.ls, h6⟩
theorem EnR.okp {H0 : Hp} {n : En} {o : Option V} (r : EnR C s q H0 N H n o) (e : Xt s N H N' H') : ∀ b u, Ow H n o b → H b = some u → H' b = some u := fun b u w h => by
  obtain ⟨⟨xs, hx⟩, _, hn, _⟩ := r.ow w
  rw [h] at hx
  cases hx
  exact e.kp b _ hn h
/-- what is a slot's own is so where the outer list is the same -/
theorem EnR.ow_back {H0 : Hp} {e : En} {o : Option V} {a : Addr} (r : EnR C s q H0 N H e o) (kp : ∀ b u, Ow H e o b → H b = some u → H' b = some u) (kt : ∀ b xs, H b = some (.tup xs) → H' b = some (.tup xs)) (w : Ow H' e o a) : Ow H e o a := by
  cases e with
  | own2 dss =>
    obtain ⟨l, ls, h1, h2⟩ := r
    obtain ⟨l', ls', h3, h4, h5⟩ := w
    rw [h1] at h3
    cases h3
    have h6 := kp l _ ⟨l, ls, h1, h2.hl, .inl rfl⟩ h2.hl
    rw [h6] at h4
    injection h4 with h4
    injection h4 with h4
    cases refs_inj h4
    exact ⟨l, ls, h1, h2.hl, h5⟩
  | own ds => exact w
  | no => exact w.elim
  | d x => exact w.elim
  | st => exact w.elim
  | scr => exact w.elim
  | xc e => exact w.elim
  | xl es => exact w.elim
  | vl v => exact w.elim
  | dk ks => exact w.elim
  | ob => exact w.elim
  | fn j cd => exact w.elim
  | own3 ps =>
    obtain ⟨l, ts, h1, h2⟩ := r
    obtain ⟨l', ts', h3, h4, h5, h6⟩ := w
    rw [h1] at h3
    cases h3
    have h7 := kp l _ ⟨l, ts, h1, h2.hl, fun t ht => h2.tup ht, .inl rfl⟩ h2.hl
    rw [h7] at h4
    injection h4 with h4
    injection h4 with h4
    cases trs_inj h4 (fun t ht => kt _ _ (h2.tup ht)) h5
    exact ⟨l, ts, h1, h2.hl, fun t ht => h2.tup ht, h6⟩
theorem EnR.xt {H0 : Hp} (I : Iv C s q N H ds) (e : Xt s N H N' H') : ∀ {n : En} {o : Option V}, EnR C s q H0 N H n o → EnR C s q H0 N' H' n o
  | .no, _, h => h
  | .d x, _, ⟨v, h1, h2⟩ => ⟨v, h1, I.rp e h2⟩
  | .own _, _, ⟨l, xs, h1, h0, h2⟩ => ⟨l, xs, h1, h0, h2.xt I e⟩
  | .own2 _, _, ⟨l, ls, h1, h2⟩ => ⟨l, ls, h1, h2.xt I e⟩
  | .st, _, h => h
  | .scr, _, h => h
  | .xc _, _, ⟨h1, h2, dd, h3, p, h4, h5⟩ => ⟨h1, h2, dd, h3, p, I.rp e h4, e.kt (.inl rfl) (by rintro rfl; exact I.sl _ h5 rfl) h5⟩
  | .xl _, _, ⟨l, vs, h1, h2, h3, h4⟩ => ⟨l, vs, h1, e.nn _ h2, e.kt (.inr h2) (by rintro rfl; exact I.ns h2) h3, paired_imp (fun _ _ h => h.xt I e) h4⟩
  | .own3 _, _, ⟨l, ts, h1, h2⟩ => ⟨l, ts, h1, h2.xt I e⟩
  | .vl _, _, h => h
  | .dk _, _, ⟨p, h1, h2, h3, h5, h4⟩ => ⟨p, h1, h2, h3, fun z => (e.nw p z).elim h5 (fun z => z.elim (fun z => by rw [h4] at z; cases z) h3.2), e.kp _ _ h3 h4⟩
  | .ob, _, h => h
  | .fn _ none, _, ⟨f, c, h1, h2⟩ => ⟨f, c, h1, h2.xt I e⟩
  | .fn _ (some _), _, ⟨f, c, h1, h2, h3, h4⟩ => ⟨f, c, h1, h2.xt I e, h3, I.rps e h4⟩
/-- a list that is no slot's own, not frozen, is changed -/
theorem EnR.chg {H0 : Hp} {l : Addr} {us : List V} {w : HO} (hl : H l = some (.lst us)) (hn : ¬ N l) : ∀ {n : En} {o : Option V}, ¬ Ow H n o l → EnR C s q H0 N H n o → EnR C s q H0 N (upd H l w) n o
  | .no, _, _, h => h
  | .d x, _, _, ⟨v, h1, h2⟩ => ⟨v, h1, rp_mut hl hn h2⟩
  | .own _, _, no, ⟨l2, xs, h1, h0, h2⟩ => ⟨l2, xs, h1, h0, h2.nn, h2.ls, by rw [upd_ne (by rintro rfl; exact no h1)]; exact h2.hl, rps_mut hl hn h2.r⟩
  | .own2 _, _, no, ⟨l2, ls, h1, h2⟩ => ⟨l2, ls, h1, h2.h0, h2.nn, h2.sl, by rw [upd_ne (by rintro rfl; exact no ⟨l2, ls, h1, h2.hl, .inl rfl⟩)]; exact h2.hl, h2.out, h2.nd, h2.len, fun j a es e1 e2 => by
      obtain ⟨h3, xs, h4⟩ := h2.at_ j a es e1 e2
      exact ⟨h3, xs, h4.nn, h4.ls, by rw [upd_ne (by rintro rfl; exact no ⟨l2, ls, h1, h2.hl, .inr (List.mem_of_getElem? e1)⟩)]; exact h4.hl, rps_mut hl hn h4.r⟩⟩
  | .st, _, _, h => h
  | .scr, _, _, h => h
  | .xc _, _, _, ⟨h1, h2, dd, h3, p, h4, h5⟩ => ⟨h1, h2, dd, h3, p, rp_mut hl hn h4, by rw [upd_ne (by rintro rfl; rw [hl] at h5; cases h5)]; exact h5⟩
  | .xl _, _, _, ⟨l2, vs, h1, h2, h3, h4⟩ => ⟨l2, vs, h1, h2, by rw [upd_ne (by rintro rfl; exact hn h2)]; exact h3, paired_imp (fun _ _ h => h.chg hl hn) h4⟩
  | .own3 _, _, no, ⟨l2, ts, h1, h2⟩ => ⟨l2, ts, h1, h2.h0, h2.nn, h2.sl, by rw [upd_ne (by rintro rfl; exact no ⟨l2, ts, h1, h2.hl, fun t ht => h2.tup ht, .inl rfl⟩)]; exact h2.hl, h2.out, h2.nd, h2.len, fun j t p e1 e2 => by
      obtain ⟨h3, h4, h5, xs, h6⟩ := h2.at_ j t p e1 e2
      exact ⟨by rw [upd_ne (by rintro rfl; rw [hl] at h3; cases h3)]; exact h3, rp_mut hl hn h4, h5, xs, h6.nn, h6.ls, by rw [upd_ne (by rintro rfl; exact no ⟨l2, ts, h1, h2.hl, fun t ht => h2.tup ht, .inr ⟨t, List.mem_of_getElem? e1, rfl⟩⟩)]; exact h6.hl, rps_mut hl hn h6.r⟩⟩
  | .vl _, _, _, h => h
  | .dk _, _, _, ⟨p, h1, h2, h3, h5, h4⟩ => ⟨p, h1, h2, h3, h5, by rw [upd_ne (by rintro rfl; rw [hl] at h4; cases h4)]; exact h4⟩
  | .ob, _, _, h => h
  | .fn _ none, _, _, ⟨f, c, h1, h2⟩ => ⟨f, c, h1, h2.upd hl (fun _ z => by cases z)⟩
  | .fn _ (some _), _, _, ⟨f, c, h1, h2, h3, h4⟩ => ⟨f, c, h1, h2.upd hl (fun _ z => by cases z), h3, rps_mut hl hn h4⟩
/-- a list that is no slot's own is frozen -/
theorem EnR.fz {H0 : Hp} {l : Addr} {us : List V} (hl : H l = some (.lst us)) : ∀ {n : En} {o : Option V}, ¬ Ow H n o l → EnR C s q H0 N H n o → EnR C s q H0 (fzN N l) H n o
  | .no, _, _, h => h
  | .d x, _, _, ⟨v, h1, h2⟩ => ⟨v, h1, rp_fz h2⟩
  | .own _, _, no, ⟨l2, xs, h1, h0, h2⟩ => ⟨l2, xs, h1, h0, fun z => Or.elim z h2.nn (fun e => no (by rw [← e]; exact h1)), h2.ls, h2.hl, rps_fz h2.r⟩
  | .own2 _, _, no, ⟨l2, ls, h1, h2⟩ => ⟨l2, ls, h1, h2.h0, fun z => Or.elim z h2.nn (fun e => no ⟨l2, ls, h1, h2.hl, .inl e.symm⟩), h2.sl, h2.hl, h2.out, h2.nd, h2.len, fun j a es e1 e2 => by
      obtain ⟨h3, xs, h4⟩ := h2.at_ j a es e1 e2
      exact ⟨h3, xs, fun z => Or.elim z h4.nn (fun e => no ⟨l2, ls, h1, h2.hl, .inr (by rw [← e]; exact List.mem_of_getElem? e1)⟩), h4.ls, h4.hl, rps_fz h4.r⟩⟩
  | .st, _, _, h => h
  | .scr, _, _, h => h
  | .xc _, _, _, ⟨h1, h2, dd, h3, p, h4, h5⟩ => ⟨h1, h2, dd, h3, p, rp_fz h4, h5⟩
  | .xl _, _, _, ⟨l2, vs, h1, h2, h3, h4⟩ => ⟨l2, vs, h1, .inl h2, h3, paired_imp (fun _ _ h => h.fz) h4⟩
  | .own3 _, _, no, ⟨l2, ts, h1, h2⟩ => ⟨l2, ts, h1, h2.h0, fun z => Or.elim z h2.nn (fun e => no ⟨l2, ts, h1, h2.hl, fun t ht => h2.tup ht, .inl e.symm⟩), h2.sl, h2.hl, h2.out, h2.nd, h2.len, fun j t p e1 e2 => by
      obtain ⟨h3, h4, h5, xs, h6⟩ := h2.at_ j t p e1 e2
      exact ⟨h3, rp_fz h4, h5, xs, fun z => Or.elim z h6.nn (fun e => no ⟨l2, ts, h1, h2.hl, fun t ht => h2.tup ht, .inr ⟨t, List.mem_of_getElem? e1, e.symm⟩⟩), h6.ls, h6.hl, rps_fz h6.r⟩⟩
  | .vl _, _, _, h => h
  | .dk _, _, _, ⟨p, h1, h2, h3, h5, h4⟩ => ⟨p, h1, h2, h3, fun z => Or.elim z h5 (fun z => by subst z; rw [hl] at h4; cases h4), h4⟩
  | .ob, _, _, h => h
  | .fn _ none, _, _, h => h
  | .fn _ (some _), _, _, ⟨f, c, h1, h2, h3, h4⟩ => ⟨f, c, h1, h2, h3, rps_fz h4⟩
theorem Ev.xt {H0 : Hp} {σ : L2.St} {ρ : Rho} (E : Ev C s q H0 N H σ ρ) (I : Iv C s q N H ds) (e : Xt s N H N' H') : Ev C s q H0 N' H' σ ρ := by
  have kp : ∀ (i : Nat) (n : En) (o : Option V), ρ[i]? = some n → σ[i]? = some o → ∀ b u, Ow H n o b → H b = some u → H' b = some u := fun i n o h1 h2 b u w h => by
    obtain ⟨⟨xs, hx⟩, _, hn, _⟩ := (E.at_ i n o h1 h2).ow w
    rw [h] at hx
    cases hx
    exact e.kp b _ hn h
  have kt : ∀ b xs, H b = some (.tup xs) → H' b = some (.tup xs) := fun b xs h => e.kt (.inl rfl) (by rintro rfl; exact I.sl _ h rfl) h
  exact ⟨E.len, fun i n o h1 h2 => (E.at_ i n o h1 h2).xt I e, fun i j n m o u a hij h1 h2 h3 h4 w1 w2 =>
    E.dis i j n m o u a hij h1 h2 h3 h4 ((E.at_ i n o h1 h3).ow_back (kp i n o h1 h3) kt w1) ((E.at_ j m u h2 h4).ow_back (kp j m u h2 h4) kt w2)⟩
theorem Ev.get {H0 : Hp} {σ : L2.St} {ρ : Rho} (E : Ev C s q H0 N H σ ρ) {i : Nat} {n : En} (h : ρ[i]? = some n) : ∃ o, σ[i]? = some o ∧ EnR C s q H0 N H n o := by
  have hi : i < σ.length := by
    rw [E.len]
    exact (List.getElem?_eq_some_iff.mp h).1
  exact ⟨σ[i], List.getElem?_eq_getElem hi, E.at_ i n _ h (List.getElem?_eq_getElem hi)⟩

/-! ### results -/
def PR (K : PySem.W.Frag) (s : Sx) (k : Kd) (N' : Addr → Prop) (H H' : Hp) (v : V) (x : PyData) : Prop :=
  match k with
  | .fz => Rp K N' H' v x
  | .pk => Rp K N' H' v x ∨ ∃ l xs ds, v = .ref l ∧ x = .list ds ∧ Lw K s N' H' l xs ds
  | .nw => ∃ l xs ds, v = .ref l ∧ x = .list ds ∧ H l = none ∧ Lw K s N' H' l xs ds
/-- what must hold behind: an end, an exception -/
def Out {α : Type} (C : Ct) (s : Sx) (q : Sq) (N : Addr → Prop) (H : Hp) (ds : Ds) (r : Except Xc α) (W : Value → Option Addr → Hp → Prop) (Q : α → (Addr → Prop) → Hp → Prop) : Prop :=
  match r with
  | .ok x => ∀ N' H', Xt s N H N' H' → Iv C s q N' H' ds → Q x N' H'
  | .error e => ∀ d N' H', Xt s N H N' H' → Iv C s q N' H' ds → XcR C N' H' d e → W (.ref (C.ca e.x)) (some d) H'
theorem Out.err {α β : Type} {e : Xc} {W : Value → Option Addr → Hp → Prop} {Q : α → (Addr → Prop) → Hp → Prop} {Q' : β → (Addr → Prop) → Hp → Prop} (h : Out C s q N H ds (.error e : Except Xc α) W Q) : Out C s q N H ds (.error e : Except Xc β) W Q' := h
theorem Out.step {α : Type} {r : Except Xc α} {W : Value → Option Addr → Hp → Prop} {Q : α → (Addr → Prop) → Hp → Prop} (e : Xt s N H N1 H1) (h : Out C s q N H ds r W Q) : Out C s q N1 H1 ds r W Q := by
  cases r with
  | ok x => exact fun N' H' e2 I => h N' H' (e.trans e2) I
  | error x => exact fun d N' H' e2 I z => h d N' H' (e.trans e2) I z
def bindR {α β : Type} (m : Re α) (f : α → Ds → Re β) : Re β :=
  match m with
  | none => none
  | some (.error e, st) => some (.error e, st)
  | some (.ok a, st) => f a st
theorem bindR_inv {α β : Type} {m : Re α} {f : α → Ds → Re β} {r : Except Xc β} {st' : Ds} (h : bindR m f = some (r, st')) : (∃ e, m = some (.error e, st') ∧ r = .error e) ∨ ∃ a st1, m = some (.ok a, st1) ∧ f a st1 = some (r, st') := by
  unfold bindR at h
  split at h
  · cases h
  · cases h
    exact .inl ⟨_, rfl, rfl⟩
  · exact .inr ⟨_, _, rfl, h⟩
@[simp] theorem bindR_ok {α β : Type} {f : α → Ds → Re β} {a : α} {st : Ds} : bindR (some (.ok a, st)) f = f a st := rfl
@[simp] theorem bindR_err {α β : Type} {f : α → Ds → Re β} {a : Xc} {st : Ds} : bindR (some (.error a, st)) f = some (.error a, st) := rfl
theorem PR.xt {k : Kd} {H0 : Hp} (I : Iv C s q N H ds) (e : Xt s N H N' H') (h : PR C.K s k N H0 H v x) : PR C.K s k N' H0 H' v x := by
  cases k with
  | fz => exact I.rp e h
  | pk => exact h.elim (fun h => .inl (I.rp e h)) fun ⟨l, xs, ds, h1, h2, h3⟩ => .inr ⟨l, xs, ds, h1, h2, h3.xt I e⟩
  | nw =>
    obtain ⟨l, xs, ds, h1, h2, h3, h4⟩ := h
    exact ⟨l, xs, ds, h1, h2, h3, h4.xt I e⟩
theorem PR.up {k : Kd} {H0 : Hp} (e : ∀ a, H1 a = none → H0 a = none) (h : PR C.K s k N H1 H v x) : PR C.K s k N H0 H v x := by
  cases k with
  | fz => exact h
  | pk => exact h
  | nw =>
    obtain ⟨l, xs, ds, h1, h2, h3, h4⟩ := h
    exact ⟨l, xs, ds, h1, h2, e _ h3, h4⟩

/-! ### expressions, tests, arguments -/
structure DE (C : Ct) (k : Kd) where
  te : Wc → TE
  ev : Rho → Ds → Re PyData
  ok : ∀ {s : Sx} {q : Sq} {H0 : Hp} {N : Addr → Prop} {σ : L2.St} {H : Hp} {ρ : Rho} {st st' : Ds} {r : Except Xc PyData}, Ev C s q H0 N H σ ρ → Iv C s q N H st → ev ρ st = some (r, st') → ∀ (W : WX) (Q : VK),
    Out C s q N H st' r (fun c d H' => W c d σ H') (fun x N' H' => ∀ v, PR C.K s k N' H H' v x → Q v H') → te ⟨W, q.ax⟩ σ H Q
structure DT (C : Ct) where
  tt : Wc → TT
  ev : Rho → Ds → Re Bool
  ok : ∀ {s : Sx} {q : Sq} {H0 : Hp} {N : Addr → Prop} {σ : L2.St} {H : Hp} {ρ : Rho} {st st' : Ds} {r : Except Xc Bool}, Ev C s q H0 N H σ ρ → Iv C s q N H st → ev ρ st = some (r, st') → ∀ (W : WX) (Q : Bool → Hp → Prop),
    Out C s q N H st' r (fun c d H' => W c d σ H') (fun x N' H' => Q x H') → tt ⟨W, q.ax⟩ σ H Q
/-- arguments: data, the state, the script -/
structure DA (C : Ct) where
  ta : Wc → TA
  ev : Rho → Ds → Re (List En)
  ok : ∀ {s : Sx} {q : Sq} {H0 : Hp} {N : Addr → Prop} {σ : L2.St} {H : Hp} {ρ : Rho} {st st' : Ds} {r : Except Xc (List En)}, Ev C s q H0 N H σ ρ → Iv C s q N H st → ev ρ st = some (r, st') → ∀ (W : WX) (Q : List V → Hp → Prop),
    Out C s q N H st' r (fun c d H' => W c d σ H') (fun x N' H' => ∀ vs, Paired (fun v e => EnR C s q full N' H' e (some v)) vs x → Q vs H') → ta ⟨W, q.ax⟩ σ H Q
end
end De

namespace De
open PySem L2 Dx
section
variable {C : Ct} {s : Sx} {q : Sq} {N N1 N2 N' : Addr → Prop} {H H0 H1 H2 H' : Hp} {ds ds' : Ds} {v : V} {x : PyData} {vs : List V} {xs es : List PyData} {n : Int} {b : Bool} {k : Kd} {K : PySem.W.Frag}
abbrev Pk (K : PySem.W.Frag) (s : Sx) (N : Addr → Prop) (H : Hp) (v : V) (x : PyData) : Prop := Rp K N H v x ∨ ∃ l xs ds, v = .ref l ∧ x = .list ds ∧ Lw K s N H l xs ds
theorem pk_i (h : Pk K s N H v (.int n)) : v = .int n := by
  rcases h with h | ⟨l, xs, ds, _, h, _⟩
  · exact h.int_eq
  · cases h
theorem pk_b (h : Pk K s N H v (.bool b)) : v = .bl b := by
  rcases h with h | ⟨l, xs, ds, _, h, _⟩
  · exact h.bl_eq
  · cases h
theorem pk_s {x : Str} (h : Pk K s N H v (.str x)) : v = .str x := by
  rcases h with h | ⟨l, xs, ds, _, h, _⟩
  · exact h.str_eq
  · cases h
theorem pk_n (h : Pk K s N H v .none) : v = .non := by
  rcases h with h | ⟨l, xs, ds, _, h, _⟩
  · exact h.non_eq
  · cases h
theorem pk_t (h : Pk K s N H v (.tuple es)) : ∃ a xs, v = .ref a ∧ SqT K H a xs ∧ RpAll K N H xs es := by
  rcases h with h | ⟨l, xs, ds, _, h, _⟩
  · exact h.tup_of
  · cases h
theorem pk_tN (h : Pk K s N H v (.tuple es)) : ∃ a xs, v = .ref a ∧ Tn.SqN K H a xs ∧ RpAll K N H xs es := by
  rcases h with h | ⟨l, xs, ds, _, h, _⟩
  · exact h.tup_ofN
  · cases h
theorem pk_l (h : Pk K s N H v (.list es)) (ns : ¬ N s.a) : ∃ l xs, v = .ref l ∧ (Nt s l ∨ N l ∧ l ≠ s.a) ∧ H l = some (.lst xs) ∧ RpAll K N H xs es := by
  rcases h with h | ⟨l, xs, ds, h1, h2, h3⟩
  · obtain ⟨l, xs, h1, h2, h3, h4⟩ := h.lst_of
    exact ⟨l, xs, h1, .inr ⟨h2, by rintro rfl; exact ns h2⟩, h3, h4⟩
  · cases h2
    exact ⟨l, xs, h1, .inl h3.ls, h3.hl, h3.r⟩
/-- data that may be compared -/
def shW (d : PyData) : Bool := d.canLay0 && decide (d.depth ≤ 190)
theorem shW_lay {d : PyData} (h : shW d = true) : d.canLay0 = true := (Bool.and_eq_true_iff.mp h).1
theorem shW_mk {d : PyData} (h1 : d.canLay0 = true) (h2 : d.depth ≤ 190) : shW d = true := by
  unfold shW
  rw [h1, decide_eq_true h2]
  rfl
theorem shW_of {d : PyData} (h : SeqAt.shaped d = true) : shW d = true := shW_mk (SeqAt.canLay_of_shaped h) (by have := SeqAt.depth_of_shaped h; omega)
theorem shW_room {A : Around} {d e : PyData} (h : shW d = true) (hr : A.units + 200 < cLine) : A.units + min d.depth e.depth < cLine := by
  have h1 : d.depth ≤ 190 := of_decide_eq_true (Bool.and_eq_true_iff.mp h).2
  have h2 : min d.depth e.depth ≤ d.depth := Nat.min_le_left _ _
  omega
def rEqW (K : PySem.W.Frag) : R2 := fun x y H Q => ∃ d e, Dp K H x d ∧ Dp K H y e ∧ shW d = true ∧ shW e = true ∧ Q (.bl (PyData.eqv d e)) H
def rNeW (K : PySem.W.Frag) : R2 := fun x y H Q => ∃ d e, Dp K H x d ∧ Dp K H y e ∧ shW d = true ∧ shW e = true ∧ Q (.bl (!PyData.eqv d e)) H
theorem _root_.L2.Room.unW {k : Nat} {A : Around} (r : Room k A) : A.units + 200 < cLine := by have := r.un; omega
theorem op_eqW {X : Cx} (hr : X.A.units + 200 < cLine) : OpR X (compareOp .Eq) (rEqW X.K) := fun pins s σ H x y v u Q I rx ry ⟨d, e, hd, he, sd, se, q⟩ => by
  obtain ⟨_, r1⟩ := Dp.reads I d x v hd rx
  obtain ⟨_, r2⟩ := Dp.reads I e y u he ry
  exact SeqAt.compareEq_reads r1 r2 (shW_lay sd) (shW_lay se) (shW_room sd hr) ⟨.bl _, H, I, rfl, q⟩
theorem op_neW {X : Cx} (hr : X.A.units + 200 < cLine) : OpR X (compareOp .NotEq) (rNeW X.K) := fun pins s σ H x y v u Q I rx ry ⟨d, e, hd, he, sd, se, q⟩ => by
  obtain ⟨_, r1⟩ := Dp.reads I d x v hd rx
  obtain ⟨_, r2⟩ := Dp.reads I e y u he ry
  exact SeqAt.compareNe_reads r1 r2 (shW_lay sd) (shW_lay se) (shW_room sd hr) ⟨.bl _, H, I, rfl, q⟩
theorem pk_dp (c : shW x = true) (h : Pk K s N H v x) : Dp K H v x := by
  have c2 := shW_lay c
  rcases h with h | ⟨l, xs, ds, rfl, rfl, h⟩
  · exact h.dp c2
  · exact .lst (SqL.of h.hl) (h.r.dp (by simpa only [PyData.canLay0] using c2))
theorem pk_ty (h : Pk K s N H v x) (ho : isOb x = false) : TyX K H v (.type (tyD x)) := by
  rcases h with h | ⟨l, xs, ds, rfl, rfl, h⟩
  · exact h.ty ho
  · exact .base (.lst h.hl)
/-- kinds are widened -/
theorem PR.pk_of (h : PR K s .fz N H0 H v x) : PR K s .pk N H0 H v x := .inl h
theorem PR.pk_nw (h : PR K s .nw N H0 H v x) : PR K s .pk N H0 H v x := by
  obtain ⟨l, xs, ds, h1, h2, _, h3⟩ := h
  exact .inr ⟨l, xs, ds, h1, h2, h3⟩

/-! ### operators -/
structure Op2 (C : Ct) (k : Kd) where
  r : R2
  f : PyData → PyData → Option PyData
  ok : ∀ {s : Sx} {q : Sq} {N : Addr → Prop} {H : Hp} {st : Ds} {v w : V} {x y z : PyData}, Iv C s q N H st → Pk C.K s N H v x → Pk C.K s N H w y → f x y = some z → ∀ Q : VK,
    (∀ u N' H', Xt s N H N' H' → Iv C s q N' H' st → PR C.K s k N' H H' u z → Q u H') → r v w H Q
/-- from two ints -/
def fI (c : Int → Int → Bool) (g : Int → Int → PyData) : PyData → PyData → Option PyData
  | .int a, .int b => if c a b = true then some (g a b) else none
  | _, _ => none
theorem fI_inv {c : Int → Int → Bool} {g : Int → Int → PyData} {x y z : PyData} (h : fI c g x y = some z) : ∃ a b, x = .int a ∧ y = .int b ∧ c a b = true ∧ z = g a b := by
  unfold fI at h
  split at h
  · split at h
    · cases h
      exact ⟨_, _, rfl, rfl, by assumption, rfl⟩
    · cases h
  · cases h
def opI0 (C : Ct) (g : Int → Int → Int) : Op2 C .fz := ⟨rI0 fun i j => .int (g i j), fI (fun _ _ => true) fun a b => .int (g a b), fun I hx hy h Q k => by
  obtain ⟨a, b, rfl, rfl, _, rfl⟩ := fI_inv h
  exact ⟨a, b, pk_i hx, pk_i hy, k _ _ _ .refl I (.int _)⟩⟩
def opI (C : Ct) (P : Int → Int → Prop) (c : Int → Int → Bool) (g : Int → Int → Int) (hc : ∀ i j, c i j = true → P i j) : Op2 C .fz := ⟨rI P fun i j => .int (g i j), fI c fun a b => .int (g a b), fun I hx hy h Q k => by
  obtain ⟨a, b, rfl, rfl, h2, rfl⟩ := fI_inv h
  exact ⟨a, b, pk_i hx, pk_i hy, hc _ _ h2, k _ _ _ .refl I (.int _)⟩⟩
def opB0 (C : Ct) (g : Int → Int → Bool) : Op2 C .fz := ⟨rI0 fun i j => .bl (g i j), fI (fun _ _ => true) fun a b => .bool (g a b), fun I hx hy h Q k => by
  obtain ⟨a, b, rfl, rfl, _, rfl⟩ := fI_inv h
  exact ⟨a, b, pk_i hx, pk_i hy, k _ _ _ .refl I (.bl _)⟩⟩
abbrev oAdd (C : Ct) : Op2 C .fz := opI0 C fun i j => i + j
abbrev oSub (C : Ct) : Op2 C .fz := opI0 C fun i j => i - j
abbrev oMul (C : Ct) : Op2 C .fz := opI C CMul (fun i j => decide (i.natAbs < 18446744073709551616) || decide (j.natAbs < 18446744073709551616)) (fun i j => i * j) (fun i j h => by
  rcases Bool.or_eq_true_iff.mp h with h | h
  · have h2 := of_decide_eq_true h
    exact .inl ⟨by omega, by omega⟩
  · have h2 := of_decide_eq_true h
    exact .inr ⟨by omega, by omega⟩)
abbrev oDiv (C : Ct) : Op2 C .fz := opI C CDiv (fun _ j => decide (0 < j ∧ j.natAbs < 1073741824)) (fun i j => i / j) (fun i j h => by
  have h2 : 0 < j ∧ j.natAbs < 1073741824 := of_decide_eq_true h
  exact ⟨h2.1, by omega⟩)
abbrev oMod (C : Ct) : Op2 C .fz := opI C (fun _ j => 0 < j) (fun _ j => decide (0 < j)) (fun i j => i % j) (fun i j h => of_decide_eq_true h)
abbrev oPow (C : Ct) : Op2 C .fz := opI C CPow (fun i j => decide (0 ≤ j ∧ j.natAbs ≤ 1000000 ∧ i.natAbs < 18446744073709551616)) (fun i j => i ^ j.toNat) (fun i j h => by
  have h2 : 0 ≤ j ∧ j.natAbs ≤ 1000000 ∧ i.natAbs < 18446744073709551616 := of_decide_eq_true h
  exact ⟨h2.1, by omega, by omega⟩)
abbrev oLt (C : Ct) : Op2 C .fz := opB0 C fun i j => decide (i < j)
abbrev oLe (C : Ct) : Op2 C .fz := opB0 C fun i j => decide (i ≤ j)
abbrev oGt (C : Ct) : Op2 C .fz := opB0 C fun i j => decide (j < i)
abbrev oGe (C : Ct) : Op2 C .fz := opB0 C fun i j => decide (j ≤ i)
/-- from two texts -/
def fS (c : Str → Str → Bool) (g : Str → Str → PyData) : PyData → PyData → Option PyData
  | .str a, .str b => if c a b = true then some (g a b) else none
  | _, _ => none
theorem fS_inv {c : Str → Str → Bool} {g : Str → Str → PyData} {x y z : PyData} (h : fS c g x y = some z) : ∃ a b, x = .str a ∧ y = .str b ∧ c a b = true ∧ z = g a b := by
  unfold fS at h
  split at h
  · split at h
    · cases h
      exact ⟨_, _, rfl, rfl, by assumption, rfl⟩
    · cases h
  · cases h
def oAddS (C : Ct) : Op2 C .fz := ⟨fun x y H Q => ∃ i j, x = .str i ∧ y = .str j ∧ i.length + j.length ≤ sizeLine ∧ Q (.str (i ++ j)) H, fS (fun i j => decide (i.length + j.length ≤ 100000)) fun i j => .str (i ++ j), fun I hx hy h Q k => by
  obtain ⟨a, b, rfl, rfl, h2, rfl⟩ := fS_inv h
  exact ⟨a, b, pk_s hx, pk_s hy, sz_of (of_decide_eq_true h2), k _ _ _ .refl I (.str _)⟩⟩
def oLtS (C : Ct) : Op2 C .fz := ⟨fun x y H Q => ∃ i j, x = .str i ∧ y = .str j ∧ Q (.bl (decide (i.cps.toList < j.cps.toList))) H, fS (fun _ _ => true) fun i j => .bool (decide (i.cps.toList < j.cps.toList)), fun I hx hy h Q k => by
  obtain ⟨a, b, rfl, rfl, h, rfl⟩ := fS_inv h
  exact ⟨a, b, pk_s hx, pk_s hy, k _ _ _ .refl I (.bl _)⟩⟩
/-- a sign in a text -/
def fSg (neg : Bool) : PyData → PyData → Option PyData
  | .str a, .str b => match a.cps.toList with
    | [c] => some (.bool (if neg then !decide (c ∈ b.cps.toList) else decide (c ∈ b.cps.toList)))
    | _ => none
  | _, _ => none
theorem fSg_inv {neg : Bool} {x y z : PyData} (h : fSg neg x y = some z) : ∃ c b, x = .str ⟨#[c]⟩ ∧ y = .str b ∧ z = .bool (if neg then !decide (c ∈ b.cps.toList) else decide (c ∈ b.cps.toList)) := by
  unfold fSg at h
  split at h
  · rename_i a b
    split at h
    · rename_i c e
      cases h
      obtain ⟨a⟩ := a
      obtain ⟨a⟩ := a
      cases (show a = [c] from e)
      exact ⟨_, _, rfl, rfl, rfl⟩
    · cases h
  · cases h
def oSg (C : Ct) : Op2 C .fz := ⟨fun x y H Q => ∃ (c : Nat) (z : Str), x = .str ⟨#[c]⟩ ∧ y = .str z ∧ Q (.bl (decide (c ∈ z.cps.toList))) H, fSg false, fun I hx hy h Q k => by
  obtain ⟨c, b, rfl, rfl, rfl⟩ := fSg_inv h
  exact ⟨c, b, pk_s hx, pk_s hy, k _ _ _ .refl I (.bl _)⟩⟩
def oNSg (C : Ct) : Op2 C .fz := ⟨fun x y H Q => ∃ (c : Nat) (z : Str), x = .str ⟨#[c]⟩ ∧ y = .str z ∧ Q (.bl (!decide (c ∈ z.cps.toList))) H, fSg true, fun I hx hy h Q k => by
  obtain ⟨c, b, rfl, rfl, rfl⟩ := fSg_inv h
  exact ⟨c, b, pk_s hx, pk_s hy, k _ _ _ .refl I (.bl _)⟩⟩
/-- == and != of data -/
def oEq (C : Ct) : Op2 C .fz := ⟨rEqW C.K, fun x y => if shW x = true ∧ shW y = true then some (.bool (PyData.eqv x y)) else none, fun I hx hy h Q k => by
  split at h
  · rename_i z
    cases h
    exact ⟨_, _, pk_dp z.1 hx, pk_dp z.2 hy, z.1, z.2, k _ _ _ .refl I (.bl _)⟩
  · cases h⟩
def oNe (C : Ct) : Op2 C .fz := ⟨rNeW C.K, fun x y => if shW x = true ∧ shW y = true then some (.bool (!PyData.eqv x y)) else none, fun I hx hy h Q k => by
  split at h
  · rename_i z
    cases h
    exact ⟨_, _, pk_dp z.1 hx, pk_dp z.2 hy, z.1, z.2, k _ _ _ .refl I (.bl _)⟩
  · cases h⟩
/-- is None -/
def isN : PyData → Bool
  | .none => true
  | _ => false
theorem pk_isN (h : Pk K s N H v x) : decide (v = .non) = isN x := by
  rcases h with h | ⟨l, xs, ds, rfl, rfl, h⟩
  · cases h with
    | non => rfl
    | bl b => rfl
    | int i => rfl
    | str x => rfl
    | lst _ _ _ => rfl
    | tup _ _ => rfl
    | dic _ _ _ _ _ => rfl
    | obj _ _ _ _ _ => rfl
  · rfl
def oIs (C : Ct) : Op2 C .fz := ⟨fun x y H Q => y = .non ∧ Q (.bl (decide (x = .non))) H, fun x y => if isN y = true then some (.bool (isN x)) else none, fun I hx hy h Q k => by
  split at h
  · rename_i z
    cases h
    refine ⟨of_decide_eq_true ((pk_isN hy).trans z), k _ _ _ .refl I ?_⟩
    show Rp _ _ _ _ _
    rw [pk_isN hx]
    exact .bl _
  · cases h⟩
def oIsnt (C : Ct) : Op2 C .fz := ⟨fun x y H Q => y = .non ∧ Q (.bl (!decide (x = .non))) H, fun x y => if isN y = true then some (.bool (!isN x)) else none, fun I hx hy h Q k => by
  split at h
  · rename_i z
    cases h
    refine ⟨of_decide_eq_true ((pk_isN hy).trans z), k _ _ _ .refl I ?_⟩
    show Rp _ _ _ _ _
    rw [pk_isN hx]
    exact .bl _
  · cases h⟩
/-- items -/
def fIxL : PyData → PyData → Option PyData
  | .list xs, .int i => atI xs i
  | _, _ => none
def fIxT : PyData → PyData → Option PyData
  | .tuple xs, .int i => atI xs i
  | _, _ => none
def fIxS : PyData → PyData → Option PyData
  | .str x, .int i => if x.length ≤ 100000 then (atI x.cps.toList i).map fun c => .str ⟨#[c]⟩ else none
  | _, _ => none
theorem at_of {xs : List V} {n : Int} {d : PyData} (h : atI es n = some d) (r : RpAll K N H xs es) : ∃ x, atI xs n = some x ∧ Rp K N H x d := by
  unfold atI at h ⊢
  rw [r.length]
  cases hx : ixN es.length n with
  | none => rw [hx] at h; cases h
  | some j =>
    rw [hx] at h
    obtain ⟨x, e1, e2⟩ := r.got h
    exact ⟨x, e1, e2⟩
def oIxL (C : Ct) : Op2 C .fz := ⟨rIxL C.K, fIxL, fun I hx hy h Q k => by
  unfold fIxL at h
  split at h
  · obtain ⟨l, xs, rfl, _, h1, h2⟩ := pk_l hx I.ns
    obtain ⟨x, h3, h4⟩ := at_of h h2
    exact ⟨l, xs, _, x, rfl, pk_i hy, SqL.of h1, h3, k _ _ _ .refl I h4⟩
  · cases h⟩
def oIxT (C : Ct) : Op2 C .fz := ⟨rIxT C.K, fIxT, fun I hx hy h Q k => by
  unfold fIxT at h
  split at h
  · obtain ⟨l, xs, rfl, h1, h2⟩ := pk_t hx
    obtain ⟨x, h3, h4⟩ := at_of h h2
    exact ⟨l, xs, _, x, rfl, pk_i hy, h1, h3, k _ _ _ .refl I h4⟩
  · cases h⟩
def oIxS (C : Ct) : Op2 C .fz := ⟨rIxS, fIxS, fun I hx hy h Q k => by
  unfold fIxS at h
  split at h
  · rename_i x i
    split at h
    · rename_i hz
      cases hc : atI x.cps.toList i with
      | none => rw [hc] at h; cases h
      | some c =>
        rw [hc] at h
        cases h
        exact ⟨x, i, c, pk_s hx, pk_i hy, sz_of hz, hc, k _ _ _ .refl I (.str _)⟩
    · cases h
  · cases h⟩
/-- put together -/
def fCat : PyData → PyData → Option PyData
  | .list xs, .list ys => if xs.length + ys.length ≤ 100000 then some (.list (xs ++ ys)) else none
  | _, _ => none
def fCatT : PyData → PyData → Option PyData
  | .tuple xs, .tuple ys => if xs.length + ys.length ≤ 100000 then some (.tuple (xs ++ ys)) else none
  | _, _ => none
/-- a new list of data -/
theorem nw_of [Nw C] (I : Iv C s q N H ds) {p : Addr} {ys : List V} (hp : H p = none) (r : RpAll C.K N H ys es) : PR C.K s .nw N H (upd H p (.lst ys)) (.ref p) (.list es) :=
  ⟨p, ys, es, rfl, rfl, hp, fun z => I.na p z hp, (I.nt hp), upd_same, I.rps (Xt.new hp) r⟩
theorem tp_of (I : Iv C s q N H ds) {p : Addr} {ys : List V} {o : Obj} (hp : H p = none) (ho : o.dict = none) (r : RpAll C.K N H ys es) : Rp C.K N (upd H p (.frz o (.tup ys))) (.ref p) (.tuple es) :=
  .tup (.inl ⟨o, upd_same, ho⟩) (I.rps (Xt.new hp) r)
def oCat (C : Ct) [Nw C] : Op2 C .nw := ⟨rCat, fCat, fun {s q N H st v w x y z} I hx hy h Q k => by
  unfold fCat at h
  split at h
  · split at h
    · rename_i hz
      cases h
      obtain ⟨l, xs, rfl, _, h1, h2⟩ := pk_l hx I.ns
      obtain ⟨l', ys, rfl, _, h3, h4⟩ := pk_l hy I.ns
      exact ⟨l, l', xs, ys, rfl, rfl, h1, h3, by rw [h2.length, h4.length]; exact sz_of hz, fun p hp => k _ _ _ (Xt.new hp) (I.new hp) (nw_of I hp (h2.app h4))⟩
    · cases h
  · cases h⟩
def oCatT (C : Ct) : Op2 C .fz := ⟨Tn.rCatN C.K, fCatT, fun {s q N H st v w x y z} I hx hy h Q k => by
  unfold fCatT at h
  split at h
  · split at h
    · rename_i hz
      cases h
      obtain ⟨l, xs, rfl, h1, h2⟩ := pk_tN hx
      obtain ⟨l', ys, rfl, h3, h4⟩ := pk_tN hy
      refine ⟨l, l', xs, ys, rfl, rfl, h1.t, h3.t, by rw [h2.length, h4.length]; exact sz_of hz, fun hx => ?_, fun _ hy => ?_, fun _ _ p o hp ho => k _ _ _ (Xt.new hp) (I.new hp) (tp_of I hp ho (h2.app h4))⟩
      · subst hx
        cases h2
        exact k _ _ _ .refl I (.tup h3 h4)
      · subst hy
        cases h4
        refine k _ _ _ .refl I ?_
        show Rp C.K N H _ _
        rw [List.append_nil]
        exact .tup h1 h2
    · cases h
  · cases h⟩
/-- flat things in a list, a tuple -/
def flD : PyData → Bool
  | .none => true | .bool _ => true | .int _ => true | .str _ => true | _ => false
theorem flat_of {v : V} {d : PyData} (h : Rp K N H v d) (f : flD d = true) : flatV v = true := by
  cases h with
  | lst _ _ _ => cases f
  | tup _ _ => cases f
  | dic _ _ _ _ _ => cases f
  | obj _ _ _ _ _ => cases f
  | _ => rfl
theorem eqV_of {v w : V} {d e : PyData} (h : Rp K N H v d) (g : Rp K N H w e) (f : flD d = true) (f' : flD e = true) : eqV v w = PyData.eqv d e := by
  cases h with
  | lst _ _ _ => cases f
  | tup _ _ => cases f
  | dic _ _ _ _ _ => cases f
  | obj _ _ _ _ _ => cases f
  | non => cases g with
    | lst _ _ _ => cases f'
    | tup _ _ => cases f'
    | dic _ _ _ _ _ => cases f'
    | obj _ _ _ _ _ => cases f'
    | _ => rfl
  | bl b => cases g with
    | lst _ _ _ => cases f'
    | tup _ _ => cases f'
    | dic _ _ _ _ _ => cases f'
    | obj _ _ _ _ _ => cases f'
    | _ => rfl
  | int b => cases g with
    | lst _ _ _ => cases f'
    | tup _ _ => cases f'
    | dic _ _ _ _ _ => cases f'
    | obj _ _ _ _ _ => cases f'
    | _ => rfl
  | str b => cases g with
    | lst _ _ _ => cases f'
    | tup _ _ => cases f'
    | dic _ _ _ _ _ => cases f'
    | obj _ _ _ _ _ => cases f'
    | _ => rfl
def fIn (neg : Bool) : PyData → PyData → Option PyData
  | x, .list ys => if flD x = true ∧ ys.all flD = true then some (.bool (if neg then !(ys.any fun y => PyData.eqv y x) else ys.any fun y => PyData.eqv y x)) else none
  | x, .tuple ys => if flD x = true ∧ ys.all flD = true then some (.bool (if neg then !(ys.any fun y => PyData.eqv y x) else ys.any fun y => PyData.eqv y x)) else none
  | _, _ => none
theorem flats_of : ∀ {xs : List V} {ds : List PyData}, RpAll K N H xs ds → ds.all flD = true → xs.all flatV = true
  | _, _, .nil, _ => rfl
  | _, _, .cons h r, f => by
    obtain ⟨f1, f2⟩ := Bool.and_eq_true_iff.mp f
    exact Bool.and_eq_true_iff.mpr ⟨flat_of h f1, flats_of r f2⟩
theorem inV_of {x : V} {d : PyData} (hx : Rp K N H x d) (fx : flD d = true) : ∀ {xs : List V} {ds : List PyData}, RpAll K N H xs ds → ds.all flD = true → inV x xs = ds.any fun y => PyData.eqv y d
  | _, _, .nil, _ => rfl
  | _, _, .cons h r, f => by
    obtain ⟨f1, f2⟩ := Bool.and_eq_true_iff.mp f
    show (eqV _ x || inV x _) = (PyData.eqv _ d || _)
    rw [eqV_of h hx f1 fx, inV_of hx fx r f2]
theorem pk_fl {v : V} {x : PyData} (h : Pk K s N H v x) (f : flD x = true) : Rp K N H v x := by
  rcases h with h | ⟨l, xs, ds, _, rfl, _⟩
  · exact h
  · cases f
def oIn (C : Ct) (neg : Bool) : Op2 C .fz := ⟨rIn C.K neg, fIn neg, fun {s q N H st v w x y z} I hx hy h Q k => by
  unfold fIn at h
  split at h
  · split at h
    · rename_i hf
      cases h
      obtain ⟨l, xs, rfl, _, h1, h2⟩ := pk_l hy I.ns
      have hx' := pk_fl hx hf.1
      refine ⟨l, xs, rfl, .inl (SqL.of h1), flat_of hx' hf.1, flats_of h2 hf.2, ?_⟩
      rw [inV_of hx' hf.1 h2 hf.2]
      exact k _ _ _ .refl I (.bl _)
    · cases h
  · split at h
    · rename_i hf
      cases h
      obtain ⟨l, xs, rfl, h1, h2⟩ := pk_t hy
      have hx' := pk_fl hx hf.1
      refine ⟨l, xs, rfl, .inr h1, flat_of hx' hf.1, flats_of h2 hf.2, ?_⟩
      rw [inV_of hx' hf.1 h2 hf.2]
      exact k _ _ _ .refl I (.bl _)
    · cases h
  · cases h⟩
abbrev oInT (C : Ct) := oIn C true
abbrev oInF (C : Ct) := oIn C false
/-- a text, so many times -/
def repS (z : Str) (n : Int) : Str := ⟨(List.replicate n.toNat z.cps).foldl (· ++ ·) #[]⟩
theorem rep_size {c : Array Nat} : ∀ (k : Nat) (acc : Array Nat), ((List.replicate k c).foldl (· ++ ·) acc).size = acc.size + k * c.size
  | 0, acc => by simp
  | k + 1, acc => by
    show ((List.replicate k c).foldl (· ++ ·) (acc ++ c)).size = _
    rw [rep_size k, Array.size_append, Nat.succ_mul]
    omega
def rRepS : R2 := fun x y H Q => ∃ (z : Str) (n : Int), x = .str z ∧ y = .int n ∧ 1 ≤ z.length ∧ z.length ≤ 1000 ∧ n.natAbs ≤ 1000000 ∧ z.length * n.toNat ≤ 100000 ∧ Q (.str (repS z n)) H
theorem op_rep_str {X : Cx} : OpR X (binaryOp .Mult) rRepS := by
  intro pins s σ H x y v u Q I rx ry h
  obtain ⟨z, n, rfl, rfl, h1, h2, h34, h5, q⟩ := h
  have h3 : n ≤ 1000000 := by omega
  have h4 : -1000000 ≤ n := by omega
  obtain ⟨t, rfl⟩ := rx
  obtain ⟨t', rfl⟩ := ry
  have b1 : (decide (n < -(2 ^ 63 : Int)) || decide (n ≥ 2 ^ 63)) = false := by
    rw [decide_eq_false (by omega), decide_eq_false (by omega)]; rfl
  refine PySem.P.mul_str b1 (fun hn _ => ?_) (fun hn _ => ?_) ?_
  · have hd : (1000000 : Int) ≤ (2 ^ 63 - 1) / n := Int.le_ediv_of_mul_le (by omega) (by omega)
    omega
  · have hl : z.length * n.toNat ≤ sizeLine := sz_of h5
    unfold Builtin.Str.tooLong
    exact decide_eq_false (by omega)
  · by_cases hn : n < 1
    · rw [if_pos hn]
      refine ⟨by decide, .str (repS z n), H, I.tok _, ?_, q⟩
      have e : repS z n = Str.empty := by
        unfold repS
        rw [show n.toNat = 0 by omega]
        rfl
      rw [e]
      exact ⟨_, rfl⟩
    · rw [if_neg hn]
      by_cases h1' : n = 1
      · subst h1'
        rw [if_pos (by rfl)]
        refine ⟨.str (repS z 1), H, I, ?_, q⟩
        have e : repS z 1 = z := by
          unfold repS
          show (⟨#[] ++ z.cps⟩ : Str) = z
          rw [Array.empty_append]
        rw [e]
        exact ⟨_, rfl⟩
      · have hb : (n == 1 || z.length == 0) = false := by
          have e1 : (n == 1) = false := by simpa using h1'
          have e2 : (z.length == 0) = false := by
            have : z.length ≠ 0 := by omega
            simpa using this
          rw [e1, e2]; rfl
        rw [if_neg (by rw [hb]; exact Bool.false_ne_true)]
        exact ⟨(by
          show ((List.replicate n.toNat z.cps).foldl (· ++ ·) #[]).size ≤ _
          rw [rep_size, Nat.mul_comm]
          exact Nat.le_trans (Nat.le_of_eq (Nat.zero_add _)) (sz_of h5)), .str (repS z n), H, I.tok _, ⟨_, rfl⟩, q⟩
def oRepS (C : Ct) : Op2 C .fz := ⟨rRepS, fun x y => match x, y with
  | .str z, .int n => if 1 ≤ z.length ∧ z.length ≤ 1000 ∧ n.natAbs ≤ 1000000 ∧ z.length * n.toNat ≤ 100000 then some (.str (repS z n)) else none
  | _, _ => none, fun {s q N H st v w x y z} I hx hy h Q k => by
  split at h
  · split at h
    · rename_i hf
      cases h
      exact ⟨_, _, pk_s hx, pk_i hy, hf.1, hf.2.1, hf.2.2.1, hf.2.2.2, k _ _ _ .refl I (.str _)⟩
    · cases h
  · cases h⟩
end
end De

namespace De
open PySem L2 Dx
/-! ### expressions -/
/-- slots that are read -/
def dVar (C : Ct) (i : Nat) : DE C .fz := ⟨fun _ => tVar i, fun ρ st => match ρ[i]? with
  | some (.d x) => some (.ok x, st)
  | _ => none, fun E I h W Q k => by
  split at h
  · rename_i x e
    cases h
    obtain ⟨o, h1, v, rfl, h2⟩ := E.get e
    exact ⟨v, h1, k _ _ .refl I v h2⟩
  · cases h⟩
/-- a slot that is looked at: a list of one's own, too -/
def dPk (C : Ct) (i : Nat) : DE C .pk := ⟨fun _ => tVar i, fun ρ st => match ρ[i]? with
  | some (.d x) => some (.ok x, st)
  | some (.own ds) => some (.ok (.list ds), st)
  | _ => none, fun E I h W Q k => by
  split at h
  · rename_i x e
    cases h
    obtain ⟨o, h1, v, rfl, h2⟩ := E.get e
    exact ⟨v, h1, k _ _ .refl I v (.inl h2)⟩
  · rename_i ds e
    cases h
    obtain ⟨o, h1, l, xs, rfl, _, h2⟩ := E.get e
    exact ⟨.ref l, h1, k _ _ .refl I _ (.inr ⟨l, xs, ds, rfl, rfl, h2⟩)⟩
  · cases h⟩
/-- a known thing -/
def dKn (C : Ct) (v : V) (x : PyData) (hv : ∀ N H, Rp C.K N H v x) : DE C .fz := ⟨fun _ => tC v, fun _ st => some (.ok x, st), fun E I h W Q k => by
  cases h
  exact k _ _ .refl I v (hv _ _)⟩
abbrev dInt (C : Ct) (i : Int) : DE C .fz := dKn C (.int i) (.int i) fun _ _ => .int i
abbrev dStr (C : Ct) (x : Str) : DE C .fz := dKn C (.str x) (.str x) fun _ _ => .str x
abbrev dBool (C : Ct) (b : Bool) : DE C .fz := dKn C (.bl b) (.bool b) fun _ _ => .bl b
abbrev dNone (C : Ct) : DE C .fz := dKn C .non .none fun _ _ => .non
/-- looked at only -/
def dLook {C : Ct} (d : DE C .fz) : DE C .pk := ⟨d.te, d.ev, fun E I h W Q k => d.ok E I h W Q (by
  unfold Out at k ⊢
  split
  · exact fun N' H' e i v p => k N' H' e i v p.pk_of
  · exact k)⟩
def dLookN {C : Ct} (d : DE C .nw) : DE C .pk := ⟨d.te, d.ev, fun E I h W Q k => d.ok E I h W Q (by
  unfold Out at k ⊢
  split
  · exact fun N' H' e i v p => k N' H' e i v p.pk_nw
  · exact k)⟩
/-- a new list is frozen -/
def dFrz {C : Ct} (d : DE C .nw) : DE C .fz := ⟨d.te, d.ev, fun E I h W Q k => d.ok E I h W Q (by
  unfold Out at k ⊢
  split
  · intro N' H' e i v p
    obtain ⟨l, xs, ds, rfl, rfl, hn, hw⟩ := p
    exact k (fzN N' l) H' (e.frz hn) (i.frz hw.hl hw.ls) _ (.lst (.inr rfl) hw.hl (rps_fz hw.r))
  · exact k)⟩
theorem Out.mono {α : Type} {C : Ct} {s : Sx} {q : Sq} {N : Addr → Prop} {H : Hp} {ds : Ds} {r : Except Xc α} {W : Value → Option Addr → Hp → Prop} {Q Q' : α → (Addr → Prop) → Hp → Prop} (h : Out C s q N H ds r W Q) (m : ∀ x N' H', Xt s N H N' H' → Iv C s q N' H' ds → Q x N' H' → Q' x N' H') : Out C s q N H ds r W Q' := by
  cases r with
  | ok x => exact fun N' H' e I => m x N' H' e I (h N' H' e I)
  | error x => exact h
section
variable {C : Ct} {k : Kd}
def dOp (o : Op2 C k) (a b : DE C .pk) : DE C k := ⟨fun W => tOp o.r (a.te W) (b.te W), fun ρ st => bindR (a.ev ρ st) fun x st1 => bindR (b.ev ρ st1) fun y st2 => (o.f x y).map fun z => (.ok z, st2), fun {s q H0 N σ H ρ st st' r} E I h W Q k => by
  rcases bindR_inv h with ⟨e, h1, rfl⟩ | ⟨x, st1, h1, h2⟩
  · exact a.ok E I h1 W _ k.err
  · refine a.ok E I h1 W _ fun N1 H1 e1 I1 v r1 => ?_
    rcases bindR_inv h2 with ⟨e, h3, rfl⟩ | ⟨y, st2, h3, h4⟩
    · exact b.ok (E.xt I e1) I1 h3 W _ (k.step e1).err
    · refine b.ok (E.xt I e1) I1 h3 W _ fun N2 H2 e2 I2 w r2 => ?_
      cases hz : o.f x y with
      | none => rw [hz] at h4; cases h4
      | some z =>
        rw [hz] at h4
        cases h4
        exact o.ok I2 (PR.xt I1 e2 r1) r2 hz Q fun u N' H' e3 I3 p => k N' H' ((e1.trans e2).trans e3) I3 u (p.up fun a z => (e1.trans e2).free z)⟩
/-- not, -, and the like: of one thing -/
structure Op1 (C : Ct) (k : Kd) where
  r : (TE → TE)
  f : PyData → Option PyData
  ok : ∀ {s : Sx} {q : Sq} {N : Addr → Prop} {H : Hp} {st : Ds} {x z : PyData} {te : TE} {σ : L2.St} {Q : VK}, Iv C s q N H st → f x = some z → (∀ P : VK, (∀ v N' H', Xt s N H N' H' → Iv C s q N' H' st → Pk C.K s N' H' v x → P v H') → te σ H P) →
    (∀ u N' H', Xt s N H N' H' → Iv C s q N' H' st → PR C.K s k N' H H' u z → Q u H') → r te σ H Q
end
/-- a call of a built-in with one argument -/
structure B1 (C : Ct) (k : Kd) where
  r : List V → Hp → VK → Prop
  f : PyData → Option PyData
  ok : ∀ {s : Sx} {q : Sq} {N : Addr → Prop} {H : Hp} {st : Ds} {v : V} {x z : PyData}, Iv C s q N H st → Pk C.K s N H v x → f x = some z → ∀ Q : VK,
    (∀ u N' H', Xt s N H N' H' → Iv C s q N' H' st → PR C.K s k N' H H' u z → Q u H') → r [v] H Q
section
variable {C : Ct} {k : Kd}
def dB1 (o : B1 C k) (a : DE C .pk) : DE C k := ⟨fun W => tCB o.r (tCons (a.te W) tNil), fun ρ st => bindR (a.ev ρ st) fun x st1 => (o.f x).map fun z => (.ok z, st1), fun {s q H0 N σ H ρ st st' r} E I h W Q k => by
  rcases bindR_inv h with ⟨e, h1, rfl⟩ | ⟨x, st1, h1, h2⟩
  · exact a.ok E I h1 W _ k.err
  · refine a.ok E I h1 W _ fun N1 H1 e1 I1 v r1 => ?_
    cases hz : o.f x with
    | none => rw [hz] at h2; cases h2
    | some z =>
      rw [hz] at h2
      cases h2
      exact o.ok I1 r1 hz Q fun u N' H' e3 I3 p => k N' H' (e1.trans e3) I3 u (p.up fun a z => e1.free z)⟩
def fLen : PyData → Option PyData
  | .list xs => some (.int xs.length)
  | .tuple xs => some (.int xs.length)
  | .str x => if x.length ≤ 100000 then some (.int x.length) else none
  | _ => none
def bLen (C : Ct) : B1 C .fz := ⟨fun xs H Q => ∃ x n, xs = [x] ∧ LenV C.K x H n ∧ Q (.int n) H, fLen, fun {s q N H st v x z} I hx h Q k => by
  unfold fLen at h
  split at h
  · cases h
    obtain ⟨l, xs, rfl, _, h1, h2⟩ := pk_l hx I.ns
    exact ⟨_, _, rfl, .inl ⟨xs, SqL.of h1, rfl⟩, k _ _ _ .refl I (by rw [h2.length]; exact .int _)⟩
  · cases h
    obtain ⟨l, xs, rfl, h1, h2⟩ := pk_t hx
    exact ⟨_, _, rfl, .inr ⟨xs, h1, rfl⟩, k _ _ _ .refl I (by rw [h2.length]; exact .int _)⟩
  · split at h
    · rename_i hz
      cases h
      cases pk_s hx
      exact ⟨_, _, rfl, ⟨sz_of hz, rfl⟩, k _ _ _ .refl I (.int _)⟩
    · cases h
  · cases h⟩
def fAbs : PyData → Option PyData
  | .int n => some (.int (if n < 0 then -n else n))
  | _ => none
def bAbs (C : Ct) : B1 C .fz := ⟨fun xs H Q => ∃ i, xs = [.int i] ∧ Q (.int (if i < 0 then -i else i)) H, fAbs, fun {s q N H st v x z} I hx h Q k => by
  unfold fAbs at h
  split at h
  · cases h
    cases pk_i hx
    exact ⟨_, rfl, k _ _ _ .refl I (.int _)⟩
  · cases h⟩
def fInt : PyData → Option PyData
  | .int n => some (.int n)
  | .bool b => some (.int (if b then 1 else 0))
  | _ => none
def bInt (C : Ct) : B1 C .fz := ⟨rInt1, fInt, fun {s q N H st v x z} I hx h Q k => by
  unfold fInt at h
  split at h
  · cases h
    cases pk_i hx
    exact .inl ⟨_, rfl, k _ _ _ .refl I (.int _)⟩
  · cases h
    cases pk_b hx
    exact .inr ⟨_, rfl, k _ _ _ .refl I (.int _)⟩
  · cases h⟩
def fList : PyData → Option PyData
  | .list xs => some (.list xs)
  | .tuple xs => some (.list xs)
  | _ => none
def bList (C : Ct) [Nw C] : B1 C .nw := ⟨rList (K := C.K), fList, fun {s q N H st v x z} I hx h Q k => by
  unfold fList at h
  split at h
  · cases h
    obtain ⟨l, xs, rfl, _, h1, h2⟩ := pk_l hx I.ns
    exact ⟨l, xs, rfl, .inl (SqL.of h1), fun p hp => k _ _ _ (Xt.new hp) (I.new hp) (nw_of I hp h2)⟩
  · cases h
    obtain ⟨l, xs, rfl, h1, h2⟩ := pk_t hx
    exact ⟨l, xs, rfl, .inr h1, fun p hp => k _ _ _ (Xt.new hp) (I.new hp) (nw_of I hp h2)⟩
  · cases h⟩
def fTup : PyData → Option PyData
  | .list xs => some (.tuple xs)
  | .tuple xs => some (.tuple xs)
  | _ => none
def bTup (C : Ct) : B1 C .fz := ⟨rTup (K := C.K), fTup, fun {s q N H st v x z} I hx h Q k => by
  unfold fTup at h
  split at h
  · cases h
    obtain ⟨l, xs, rfl, _, h1, h2⟩ := pk_l hx I.ns
    exact ⟨l, xs, rfl, .inl ⟨SqL.of h1, fun p o hp ho => k _ _ _ (Xt.new hp) (I.new hp) (tp_of I hp ho h2)⟩⟩
  · cases h
    obtain ⟨l, xs, rfl, h1, h2⟩ := pk_tN hx
    exact ⟨l, xs, rfl, .inr ⟨h1.t, k _ _ _ .refl I (.tup h1 h2)⟩⟩
  · cases h⟩
/-- ints, bools of a list -/
def asInts : List PyData → Option (List Int)
  | [] => some []
  | .int i :: r => (asInts r).map (i :: ·)
  | _ :: _ => none
def asBools : List PyData → Option (List Bool)
  | [] => some []
  | .bool i :: r => (asBools r).map (i :: ·)
  | _ :: _ => none
def asStrs : List PyData → Option (List Str)
  | [] => some []
  | .str i :: r => (asStrs r).map (i :: ·)
  | _ :: _ => none
theorem asInts_rp {K : PySem.W.Frag} {N : Addr → Prop} {H : Hp} : ∀ {ds : List PyData} {vs : List V} {ns : List Int}, RpAll K N H vs ds → asInts ds = some ns → vs = ns.map V.int
  | [], _, _, h, e => by cases e; cases h; rfl
  | .int i :: r, _, _, .cons h t, e => by
    cases hr : asInts r with
    | none => rw [asInts, hr] at e; cases e
    | some ms =>
      rw [asInts, hr] at e
      cases e
      cases h
      rw [asInts_rp t hr]
      rfl
  | .none :: _, _, _, _, e => by cases e
  | .bool _ :: _, _, _, _, e => by cases e
  | .str _ :: _, _, _, _, e => by cases e
  | .list _ :: _, _, _, _, e => by cases e
  | .tuple _ :: _, _, _, _, e => by cases e
  | .dict _ :: _, _, _, _, e => by cases e
theorem asBools_rp {K : PySem.W.Frag} {N : Addr → Prop} {H : Hp} : ∀ {ds : List PyData} {vs : List V} {ns : List Bool}, RpAll K N H vs ds → asBools ds = some ns → vs = ns.map V.bl
  | [], _, _, h, e => by cases e; cases h; rfl
  | .bool i :: r, _, _, .cons h t, e => by
    cases hr : asBools r with
    | none => rw [asBools, hr] at e; cases e
    | some ms =>
      rw [asBools, hr] at e
      cases e
      cases h
      rw [asBools_rp t hr]
      rfl
  | .none :: _, _, _, _, e => by cases e
  | .int _ :: _, _, _, _, e => by cases e
  | .str _ :: _, _, _, _, e => by cases e
  | .list _ :: _, _, _, _, e => by cases e
  | .tuple _ :: _, _, _, _, e => by cases e
  | .dict _ :: _, _, _, _, e => by cases e
theorem asStrs_rp {K : PySem.W.Frag} {N : Addr → Prop} {H : Hp} : ∀ {ds : List PyData} {vs : List V} {ns : List Str}, RpAll K N H vs ds → asStrs ds = some ns → vs = ns.map V.str
  | [], _, _, h, e => by cases e; cases h; rfl
  | .str i :: r, _, _, .cons h t, e => by
    cases hr : asStrs r with
    | none => rw [asStrs, hr] at e; cases e
    | some ms =>
      rw [asStrs, hr] at e
      cases e
      cases h
      rw [asStrs_rp t hr]
      rfl
  | .none :: _, _, _, _, e => by cases e
  | .int _ :: _, _, _, _, e => by cases e
  | .bool _ :: _, _, _, _, e => by cases e
  | .list _ :: _, _, _, _, e => by cases e
  | .tuple _ :: _, _, _, _, e => by cases e
  | .dict _ :: _, _, _, _, e => by cases e
def fSum : PyData → Option PyData
  | .list xs => (asInts xs).map fun ns => .int ns.sum
  | _ => none
def bSum (C : Ct) : B1 C .fz := ⟨rSum C.K, fSum, fun {s q N H st v x z} I hx h Q k => by
  unfold fSum at h
  split at h
  · rename_i es
    cases hn : asInts es with
    | none => rw [hn] at h; cases h
    | some ns =>
      rw [hn] at h
      cases h
      obtain ⟨l, xs, rfl, _, h1, h2⟩ := pk_l hx I.ns
      cases asInts_rp h2 hn
      exact ⟨l, ns, rfl, SqL.of h1, k _ _ _ .refl I (.int _)⟩
  · cases h⟩
def fAll : PyData → Option PyData
  | .list xs => (asBools xs).map fun ns => .bool (ns.all id)
  | _ => none
def fAny : PyData → Option PyData
  | .list xs => (asBools xs).map fun ns => .bool (ns.any id)
  | _ => none
def bAll (C : Ct) : B1 C .fz := ⟨rAll C.K, fAll, fun {s q N H st v x z} I hx h Q k => by
  unfold fAll at h
  split at h
  · rename_i es
    cases hn : asBools es with
    | none => rw [hn] at h; cases h
    | some ns =>
      rw [hn] at h
      cases h
      obtain ⟨l, xs, rfl, _, h1, h2⟩ := pk_l hx I.ns
      cases asBools_rp h2 hn
      exact ⟨l, ns, rfl, SqL.of h1, k _ _ _ .refl I (.bl _)⟩
  · cases h⟩
def bAny (C : Ct) : B1 C .fz := ⟨rAny C.K, fAny, fun {s q N H st v x z} I hx h Q k => by
  unfold fAny at h
  split at h
  · rename_i es
    cases hn : asBools es with
    | none => rw [hn] at h; cases h
    | some ns =>
      rw [hn] at h
      cases h
      obtain ⟨l, xs, rfl, _, h1, h2⟩ := pk_l hx I.ns
      cases asBools_rp h2 hn
      exact ⟨l, ns, rfl, SqL.of h1, k _ _ _ .refl I (.bl _)⟩
  · cases h⟩
/-- list(reversed(x)) -/
def fRev : PyData → Option PyData
  | .list xs => some (.list xs.reverse)
  | .tuple xs => some (.list xs.reverse)
  | _ => none
def dRev [Nw C] (a : DE C .pk) : DE C .nw := ⟨fun W => Lrev.tListRev C.K (a.te W), fun ρ st => bindR (a.ev ρ st) fun x st1 => (fRev x).map fun z => (.ok z, st1), fun {s q H0 N σ H ρ st st' r} E I h W Q k => by
  rcases bindR_inv h with ⟨e, h1, rfl⟩ | ⟨x, st1, h1, h2⟩
  · exact a.ok E I h1 W _ k.err
  · refine a.ok E I h1 W _ fun N1 H1 e1 I1 v r1 => ?_
    cases hz : fRev x with
    | none => rw [hz] at h2; cases h2
    | some z =>
      rw [hz] at h2
      cases h2
      unfold fRev at hz
      split at hz
      · cases hz
        obtain ⟨l, xs, rfl, _, h1, h2⟩ := pk_l r1 I1.ns
        exact ⟨l, xs, rfl, .inl (SqL.of h1), fun p hp => k _ _ (e1.trans (Xt.new hp)) (I1.new hp) _ ((nw_of I1 hp h2.rev).up fun a z => e1.free z)⟩
      · cases hz
        obtain ⟨l, xs, rfl, h1, h2⟩ := pk_t r1
        exact ⟨l, xs, rfl, .inr h1, fun p hp => k _ _ (e1.trans (Xt.new hp)) (I1.new hp) _ ((nw_of I1 hp h2.rev).up fun a z => e1.free z)⟩
      · cases hz⟩
/-- isinstance(x, T) -/
def dIsi (a : DE C .pk) (T : String) : DE C .fz := ⟨fun W => tCB (rIsi C.K) (tCons (a.te W) (tCons (tC (.ty T)) tNil)), fun ρ st => bindR (a.ev ρ st) fun x st1 => if isOb x = false then (PySem.W.kitOne C.K (.type (tyD x)) (.type T)).map fun b => (.ok (.bool b), st1) else none, fun {s q H0 N σ H ρ st st' r} E I h W Q k => by
  rcases bindR_inv h with ⟨e, h1, rfl⟩ | ⟨x, st1, h1, h2⟩
  · exact a.ok E I h1 W _ k.err
  · refine a.ok E I h1 W _ fun N1 H1 e1 I1 v r1 => ?_
    split at h2
    rotate_left
    · cases h2
    rename_i ho
    cases hz : PySem.W.kitOne C.K (.type (tyD x)) (.type T) with
    | none => rw [hz] at h2; cases h2
    | some b =>
      rw [hz] at h2
      cases h2
      exact ⟨v, .ty T, _, _, b, rfl, .ty T, pk_ty r1 ho, hz, k _ _ e1 I1 _ (.bl _)⟩⟩
/-- two ints -/
def dMM (mx : Bool) (a b : DE C .pk) : DE C .fz := ⟨fun W => tCB (fun xs H Q => ∃ i j, xs = [.int i, .int j] ∧ Q (.int (if (if mx then j > i else j < i) then j else i)) H) (tCons (a.te W) (tCons (b.te W) tNil)), fun ρ st => bindR (a.ev ρ st) fun x st1 => bindR (b.ev ρ st1) fun y st2 => (fI (fun _ _ => true) (fun i j => .int (if (if mx then j > i else j < i) then j else i)) x y).map fun z => (.ok z, st2), fun {s q H0 N σ H ρ st st' r} E I h W Q k => by
  rcases bindR_inv h with ⟨e, h1, rfl⟩ | ⟨x, st1, h1, h2⟩
  · exact a.ok E I h1 W _ k.err
  · refine a.ok E I h1 W _ fun N1 H1 e1 I1 v r1 => ?_
    rcases bindR_inv h2 with ⟨e, h3, rfl⟩ | ⟨y, st2, h3, h4⟩
    · exact b.ok (E.xt I e1) I1 h3 W _ (k.step e1).err
    · refine b.ok (E.xt I e1) I1 h3 W _ fun N2 H2 e2 I2 w r2 => ?_
      cases hz : fI (fun _ _ => true) (fun i j => .int (if (if mx then j > i else j < i) then j else i)) x y with
      | none => rw [hz] at h4; cases h4
      | some z =>
        rw [hz] at h4
        cases h4
        obtain ⟨i, j, rfl, rfl, _, rfl⟩ := fI_inv hz
        cases pk_i r1
        cases pk_i r2
        exact ⟨i, j, rfl, k _ _ (e1.trans e2) I2 _ (.int _)⟩⟩
/-- arguments -/
def aNil (C : Ct) : DA C := ⟨fun _ => tNil, fun _ st => some (.ok [], st), fun E I h W Q k => by
  cases h
  exact k _ _ .refl I [] .nil⟩
theorem Ev.nil {s : Sx} {q : Sq} {N N' : Addr → Prop} {H H' H0 : Hp} {ds : Ds} (I : Iv C s q N H ds) (e : Xt s N H N' H') {as : List En} : ∀ {vs : List V}, Paired (fun v n => EnR C s q H0 N H n (some v)) vs as → Paired (fun v n => EnR C s q H0 N' H' n (some v)) vs as
  | _, .nil => .nil
  | _, .cons h r => .cons (h.xt I e) (Ev.nil I e r)
def aD (a : DE C .fz) (t : DA C) : DA C := ⟨fun W => tCons (a.te W) (t.ta W), fun ρ st => bindR (a.ev ρ st) fun x st1 => bindR (t.ev ρ st1) fun as st2 => some (.ok (.d x :: as), st2), fun {s q H0 N σ H ρ st st' r} E I h W Q k => by
  rcases bindR_inv h with ⟨e, h1, rfl⟩ | ⟨x, st1, h1, h2⟩
  · exact a.ok E I h1 W _ k.err
  · refine a.ok E I h1 W _ fun N1 H1 e1 I1 v r1 => ?_
    rcases bindR_inv h2 with ⟨e, h3, rfl⟩ | ⟨as, st2, h3, h4⟩
    · exact t.ok (E.xt I e1) I1 h3 W _ (k.step e1).err
    · refine t.ok (E.xt I e1) I1 h3 W _ fun N2 H2 e2 I2 vs r2 => ?_
      cases h4
      exact k _ _ (e1.trans e2) I2 _ (.cons ⟨v, rfl, I1.rp e2 r1⟩ r2)⟩
/-- the state's slot, the script's -/
def aSt (i : Nat) (t : DA C) : DA C := ⟨fun W => tCons (tVar i) (t.ta W), fun ρ st => match ρ[i]? with
  | some .st => bindR (t.ev ρ st) fun as st2 => some (.ok (.st :: as), st2)
  | some .scr => bindR (t.ev ρ st) fun as st2 => some (.ok (.scr :: as), st2)
  | _ => none, fun {s q H0 N σ H ρ st st' r} E I h W Q k => by
  split at h
  · rename_i e
    obtain ⟨o, h1, rfl, hob⟩ := E.get e
    rcases bindR_inv h with ⟨e, h3, rfl⟩ | ⟨as, st2, h3, h4⟩
    · exact ⟨_, h1, t.ok E I h3 W _ k.err⟩
    · refine ⟨_, h1, t.ok E I h3 W _ fun N2 H2 e2 I2 vs r2 => ?_⟩
      cases h4
      exact k _ _ e2 I2 _ (.cons ⟨rfl, hob⟩ r2)
  · rename_i e
    obtain ⟨o, h1, rfl⟩ := E.get e
    rcases bindR_inv h with ⟨e, h3, rfl⟩ | ⟨as, st2, h3, h4⟩
    · exact ⟨_, h1, t.ok E I h3 W _ k.err⟩
    · refine ⟨_, h1, t.ok E I h3 W _ fun N2 H2 e2 I2 vs r2 => ?_⟩
      cases h4
      exact k _ _ e2 I2 _ (.cons rfl r2)
  · cases h⟩
def asD : List En → Option (List PyData)
  | [] => some []
  | .d x :: r => (asD r).map (x :: ·)
  | _ :: _ => none
theorem asD_rp {s : Sx} {q : Sq} {N : Addr → Prop} {H H0 : Hp} : ∀ {as : List En} {ds : List PyData} {vs : List V}, Paired (fun v n => EnR C s q H0 N H n (some v)) vs as → asD as = some ds → RpAll C.K N H vs ds
  | [], _, _, .nil, e => by cases e; exact .nil
  | .d x :: r, _, _, .cons ⟨v, h0, h⟩ t, e => by
    cases hr : asD r with
    | none => rw [asD, hr] at e; cases e
    | some ms =>
      rw [asD, hr] at e
      cases e
      cases h0
      exact .cons h (asD_rp t hr)
  | .no :: _, _, _, _, e => by cases e
  | .own _ :: _, _, _, _, e => by cases e
  | .own2 _ :: _, _, _, _, e => by cases e
  | .st :: _, _, _, _, e => by cases e
  | .scr :: _, _, _, _, e => by cases e
  | .xc _ :: _, _, _, _, e => by cases e
  | .xl _ :: _, _, _, _, e => by cases e
  | .own3 _ :: _, _, _, _, e => by cases e
  | .vl _ :: _, _, _, _, e => by cases e
  | .dk _ :: _, _, _, _, e => by cases e
  | .ob :: _, _, _, _, e => by cases e
  | .fn _ _ :: _, _, _, _, e => by cases e
/-- displays -/
def dTup (t : DA C) : DE C .fz := ⟨fun W => Tn.tTupN (t.ta W), fun ρ st => bindR (t.ev ρ st) fun as st1 => match asD as with
  | some ds => if ds.length ≤ 100000 then some (.ok (.tuple ds), st1) else none
  | none => none, fun {s q H0 N σ H ρ st st' r} E I h W Q k => by
  rcases bindR_inv h with ⟨e, h1, rfl⟩ | ⟨as, st1, h1, h2⟩
  · exact t.ok E I h1 W _ k.err
  · refine t.ok E I h1 W _ fun N1 H1 e1 I1 vs r1 => ?_
    split at h2
    · rename_i ds hd
      split at h2
      · rename_i hz
        cases h2
        have r2 := asD_rp r1 hd
        exact ⟨by rw [r2.length]; exact sz_of hz, fun p o hp ho => k _ _ (e1.trans (Xt.new hp)) (I1.new hp) _ (tp_of I1 hp ho r2)⟩
      · cases h2
    · cases h2⟩
def dLst [Nw C] (t : DA C) : DE C .nw := ⟨fun W => tLst (t.ta W), fun ρ st => bindR (t.ev ρ st) fun as st1 => match asD as with
  | some ds => if ds.length ≤ 100000 then some (.ok (.list ds), st1) else none
  | none => none, fun {s q H0 N σ H ρ st st' r} E I h W Q k => by
  rcases bindR_inv h with ⟨e, h1, rfl⟩ | ⟨as, st1, h1, h2⟩
  · exact t.ok E I h1 W _ k.err
  · refine t.ok E I h1 W _ fun N1 H1 e1 I1 vs r1 => ?_
    split at h2
    · rename_i ds hd
      split at h2
      · rename_i hz
        cases h2
        have r2 := asD_rp r1 hd
        exact ⟨by rw [r2.length]; exact sz_of hz, fun p hp => k _ _ (e1.trans (Xt.new hp)) (I1.new hp) _ ((nw_of I1 hp r2).up fun a z => e1.free z)⟩
      · cases h2
    · cases h2⟩
/-- and, or, not as values; a if t else b -/
def dAnd (a b : DE C .fz) : DE C .fz := ⟨fun W => tAndV (a.te W) (b.te W), fun ρ st => bindR (a.ev ρ st) fun x st1 => match x with
  | .bool true => bindR (b.ev ρ st1) fun y st2 => match y with
    | .bool c => some (.ok (.bool c), st2)
    | _ => none
  | .bool false => some (.ok (.bool false), st1)
  | _ => none, fun {s q H0 N σ H ρ st st' r} E I h W Q k => by
  rcases bindR_inv h with ⟨e, h1, rfl⟩ | ⟨x, st1, h1, h2⟩
  · exact a.ok E I h1 W _ k.err
  · refine a.ok E I h1 W _ fun N1 H1 e1 I1 v r1 => ?_
    split at h2
    · refine ⟨true, Rp.bl_eq r1, iteT ?_⟩
      rcases bindR_inv h2 with ⟨e, h3, rfl⟩ | ⟨y, st2, h3, h4⟩
      · exact b.ok (E.xt I e1) I1 h3 W _ (k.step e1).err
      · refine b.ok (E.xt I e1) I1 h3 W _ fun N2 H2 e2 I2 w r2 => ?_
        split at h4
        · cases h4
          exact k _ _ (e1.trans e2) I2 _ r2
        · cases h4
    · cases h2
      exact ⟨false, Rp.bl_eq r1, iteF (k _ _ e1 I1 _ (.bl _))⟩
    · cases h2⟩
def dOr (a b : DE C .fz) : DE C .fz := ⟨fun W => tOrV (a.te W) (b.te W), fun ρ st => bindR (a.ev ρ st) fun x st1 => match x with
  | .bool false => bindR (b.ev ρ st1) fun y st2 => match y with
    | .bool c => some (.ok (.bool c), st2)
    | _ => none
  | .bool true => some (.ok (.bool true), st1)
  | _ => none, fun {s q H0 N σ H ρ st st' r} E I h W Q k => by
  rcases bindR_inv h with ⟨e, h1, rfl⟩ | ⟨x, st1, h1, h2⟩
  · exact a.ok E I h1 W _ k.err
  · refine a.ok E I h1 W _ fun N1 H1 e1 I1 v r1 => ?_
    split at h2
    · refine ⟨false, Rp.bl_eq r1, iteF ?_⟩
      rcases bindR_inv h2 with ⟨e, h3, rfl⟩ | ⟨y, st2, h3, h4⟩
      · exact b.ok (E.xt I e1) I1 h3 W _ (k.step e1).err
      · refine b.ok (E.xt I e1) I1 h3 W _ fun N2 H2 e2 I2 w r2 => ?_
        split at h4
        · cases h4
          exact k _ _ (e1.trans e2) I2 _ r2
        · cases h4
    · cases h2
      exact ⟨true, Rp.bl_eq r1, iteT (k _ _ e1 I1 _ (.bl _))⟩
    · cases h2⟩
def dNot (a : DE C .fz) : DE C .fz := ⟨fun W => tNotV (a.te W), fun ρ st => bindR (a.ev ρ st) fun x st1 => match x with
  | .bool b => some (.ok (.bool (!b)), st1)
  | _ => none, fun {s q H0 N σ H ρ st st' r} E I h W Q k => by
  rcases bindR_inv h with ⟨e, h1, rfl⟩ | ⟨x, st1, h1, h2⟩
  · exact a.ok E I h1 W _ k.err
  · refine a.ok E I h1 W _ fun N1 H1 e1 I1 v r1 => ?_
    split at h2
    · cases h2
      exact ⟨_, Rp.bl_eq r1, k _ _ e1 I1 _ (.bl _)⟩
    · cases h2⟩
def dNeg (a : DE C .pk) : DE C .fz := ⟨fun W => tUn (rU fun i => .int (-i)) (a.te W), fun ρ st => bindR (a.ev ρ st) fun x st1 => match x with
  | .int b => some (.ok (.int (-b)), st1)
  | _ => none, fun {s q H0 N σ H ρ st st' r} E I h W Q k => by
  rcases bindR_inv h with ⟨e, h1, rfl⟩ | ⟨x, st1, h1, h2⟩
  · exact a.ok E I h1 W _ k.err
  · refine a.ok E I h1 W _ fun N1 H1 e1 I1 v r1 => ?_
    split at h2
    · cases h2
      exact ⟨_, pk_i r1, k _ _ e1 I1 _ (.int _)⟩
    · cases h2⟩
/-- a < b < c, of ints -/
def dCh (f g : Int → Int → Bool) (a b c : DE C .pk) : DE C .fz := ⟨fun W => tChain (rI0 fun i j => .bl (f i j)) (rI0 fun i j => .bl (g i j)) (a.te W) (b.te W) (c.te W), fun ρ st => bindR (a.ev ρ st) fun x st1 => bindR (b.ev ρ st1) fun y st2 => match x, y with
  | .int i, .int j => if f i j = true then bindR (c.ev ρ st2) fun z st3 => match z with
      | .int l => some (.ok (.bool (g j l)), st3)
      | _ => none
    else some (.ok (.bool false), st2)
  | _, _ => none, fun {s q H0 N σ H ρ st st' r} E I h W Q k => by
  rcases bindR_inv h with ⟨e, h1, rfl⟩ | ⟨x, st1, h1, h2⟩
  · exact a.ok E I h1 W _ k.err
  · refine a.ok E I h1 W _ fun N1 H1 e1 I1 v r1 => ?_
    rcases bindR_inv h2 with ⟨e, h3, rfl⟩ | ⟨y, st2, h3, h4⟩
    · exact b.ok (E.xt I e1) I1 h3 W _ (k.step e1).err
    · refine b.ok (E.xt I e1) I1 h3 W _ fun N2 H2 e2 I2 w r2 => ?_
      split at h4
      · refine ⟨_, _, pk_i r1, pk_i r2, _, rfl, ?_⟩
        split at h4
        · rename_i hf
          rw [if_pos hf]
          rcases bindR_inv h4 with ⟨e, h5, rfl⟩ | ⟨z, st3, h5, h6⟩
          · exact c.ok ((E.xt I e1).xt I1 e2) I2 h5 W _ (k.step (e1.trans e2)).err
          · refine c.ok ((E.xt I e1).xt I1 e2) I2 h5 W _ fun N3 H3 e3 I3 u r3 => ?_
            split at h6
            · cases h6
              exact ⟨_, _, pk_i r2, pk_i r3, k _ _ ((e1.trans e2).trans e3) I3 _ (.bl _)⟩
            · cases h6
        · rename_i hf
          cases h4
          rw [if_neg hf]
          exact k _ _ (e1.trans e2) I2 _ (by rw [Bool.not_eq_true] at hf; first | exact .bl _ | (rw [hf]; exact .bl _))
      · cases h4⟩
end
end De

namespace De
open PySem L2 Dx
section
variable {C : Ct} {k : Kd}
/-! ### tests -/
def asB (m : Re PyData) : Re Bool := bindR m fun x st => match x with
  | .bool b => some (.ok b, st)
  | _ => none
def tVal (a : DE C .fz) : DT C := ⟨fun W => tTest (a.te W), fun ρ st => asB (a.ev ρ st), fun {s q H0 N σ H ρ st st' r} E I h W Q k => by
  rcases bindR_inv h with ⟨e, h1, rfl⟩ | ⟨x, st1, h1, h2⟩
  · exact a.ok E I h1 W _ k.err
  · refine a.ok E I h1 W _ fun N1 H1 e1 I1 v r1 => ?_
    split at h2
    · cases h2
      exact ⟨_, Rp.bl_eq r1, k _ _ e1 I1⟩
    · cases h2⟩
def tBl (a : DE C .fz) : DT C := ⟨fun W => tB (a.te W), fun ρ st => asB (a.ev ρ st), fun {s q H0 N σ H ρ st st' r} E I h W Q k => by
  rcases bindR_inv h with ⟨e, h1, rfl⟩ | ⟨x, st1, h1, h2⟩
  · exact a.ok E I h1 W _ k.err
  · refine a.ok E I h1 W _ fun N1 H1 e1 I1 v r1 => ?_
    split at h2
    · cases h2
      exact ⟨_, Rp.bl_eq r1, k _ _ e1 I1⟩
    · cases h2⟩
def tYes' (C : Ct) : DT C := ⟨fun _ => tYes, fun _ st => some (.ok true, st), fun E I h W Q k => by
  cases h
  exact k _ _ .refl I⟩
def tAn (a b : DT C) : DT C := ⟨fun W => tAnd (a.tt W) (b.tt W), fun ρ st => bindR (a.ev ρ st) fun x st1 => if x = true then b.ev ρ st1 else some (.ok false, st1), fun {s q H0 N σ H ρ st st' r} E I h W Q k => by
  rcases bindR_inv h with ⟨e, h1, rfl⟩ | ⟨x, st1, h1, h2⟩
  · exact a.ok E I h1 W _ k.err
  · refine a.ok E I h1 W _ fun N1 H1 e1 I1 => ?_
    cases x with
    | true => exact iteT (b.ok (E.xt I e1) I1 h2 W _ (k.step e1))
    | false =>
      cases h2
      exact iteF (k _ _ e1 I1)⟩
def tO (a b : DT C) : DT C := ⟨fun W => tOr (a.tt W) (b.tt W), fun ρ st => bindR (a.ev ρ st) fun x st1 => if x = true then some (.ok true, st1) else b.ev ρ st1, fun {s q H0 N σ H ρ st st' r} E I h W Q k => by
  rcases bindR_inv h with ⟨e, h1, rfl⟩ | ⟨x, st1, h1, h2⟩
  · exact a.ok E I h1 W _ k.err
  · refine a.ok E I h1 W _ fun N1 H1 e1 I1 => ?_
    cases x with
    | false => exact iteF (b.ok (E.xt I e1) I1 h2 W _ (k.step e1))
    | true =>
      cases h2
      exact iteT (k _ _ e1 I1)⟩
def tNo (a : DT C) : DT C := ⟨fun W => tNot (a.tt W), fun ρ st => bindR (a.ev ρ st) fun x st1 => some (.ok (!x), st1), fun {s q H0 N σ H ρ st st' r} E I h W Q k => by
  rcases bindR_inv h with ⟨e, h1, rfl⟩ | ⟨x, st1, h1, h2⟩
  · exact a.ok E I h1 W _ k.err
  · refine a.ok E I h1 W _ fun N1 H1 e1 I1 => ?_
    cases h2
    exact k _ _ e1 I1⟩
def dIf (t : DT C) (a b : DE C .fz) : DE C .fz := ⟨fun W => tIf (t.tt W) (a.te W) (b.te W), fun ρ st => bindR (t.ev ρ st) fun x st1 => if x = true then a.ev ρ st1 else b.ev ρ st1, fun {s q H0 N σ H ρ st st' r} E I h W Q k => by
  rcases bindR_inv h with ⟨e, h1, rfl⟩ | ⟨x, st1, h1, h2⟩
  · exact t.ok E I h1 W _ k.err
  · refine t.ok E I h1 W _ fun N1 H1 e1 I1 => ?_
    cases x with
    | true => exact iteT (a.ok (E.xt I e1) I1 h2 W _ (k.step e1))
    | false => exact iteF (b.ok (E.xt I e1) I1 h2 W _ (k.step e1))⟩
/-! ### slices -/
def poT (C : Ct) : Option (DE C .pk) → Wc → TO
  | none, _ => tNoPart
  | some d, W => tPart (d.te W)
def poE (C : Ct) (o : Option (DE C .pk)) (ρ : Rho) (st : Ds) : Re (Option Int) :=
  match o with
  | none => some (.ok none, st)
  | some d => bindR (d.ev ρ st) fun x st1 => match x with
    | .int i => some (.ok (some i), st1)
    | _ => none
theorem po_ok {s : Sx} {q : Sq} {H0 : Hp} {N : Addr → Prop} {σ : L2.St} {H : Hp} {ρ : Rho} {st st' : Ds} {r : Except Xc (Option Int)} : ∀ {o : Option (DE C .pk)}, Ev C s q H0 N H σ ρ → Iv C s q N H st → poE C o ρ st = some (r, st') → ∀ (W : WX) (Q : Option Int → Hp → Prop),
    Out C s q N H st' r (fun c d H' => W c d σ H') (fun x N' H' => Q x H') → poT C o ⟨W, q.ax⟩ σ H Q
  | none, E, I, h, W, Q, k => by
    cases h
    exact k _ _ .refl I
  | some d, E, I, h, W, Q, k => by
    rcases bindR_inv h with ⟨e, h1, rfl⟩ | ⟨x, st1, h1, h2⟩
    · exact d.ok E I h1 W _ k.err
    · refine d.ok E I h1 W _ fun N1 H1 e1 I1 v r1 => ?_
      split at h2
      · cases h2
        exact ⟨_, pk_i r1, k _ _ e1 I1⟩
      · cases h2
/-- x[lo:hi] -/
structure Sl (C : Ct) (k : Kd) where
  r : V → Option Int → Option Int → Hp → VK → Prop
  f : PyData → Option Int → Option Int → Option PyData
  ok : ∀ {s : Sx} {q : Sq} {N : Addr → Prop} {H : Hp} {st : Ds} {v : V} {x z : PyData} {lo hi : Option Int}, Iv C s q N H st → Pk C.K s N H v x → f x lo hi = some z → ∀ Q : VK,
    (∀ u N' H', Xt s N H N' H' → Iv C s q N' H' st → PR C.K s k N' H H' u z → Q u H') → r v lo hi H Q
def dSl (o : Sl C k) (a : DE C .pk) (lo hi : Option (DE C .pk)) : DE C k := ⟨fun W => tSl o.r (a.te W) (poT C lo W) (poT C hi W), fun ρ st => bindR (a.ev ρ st) fun x st1 => bindR (poE C lo ρ st1) fun l st2 => bindR (poE C hi ρ st2) fun u st3 => (o.f x l u).map fun z => (.ok z, st3),
  fun {s q H0 N σ H ρ st st' r} E I h W Q k => by
  rcases bindR_inv h with ⟨e, h1, rfl⟩ | ⟨x, st1, h1, h2⟩
  · exact a.ok E I h1 W _ k.err
  refine a.ok E I h1 W _ fun N1 H1 e1 I1 v r1 => ?_
  rcases bindR_inv h2 with ⟨e, h3, rfl⟩ | ⟨l, st2, h3, h4⟩
  · exact po_ok (E.xt I e1) I1 h3 W _ (k.step e1).err
  refine po_ok (E.xt I e1) I1 h3 W _ fun N2 H2 e2 I2 => ?_
  rcases bindR_inv h4 with ⟨e, h5, rfl⟩ | ⟨u, st3, h5, h6⟩
  · exact po_ok ((E.xt I e1).xt I1 e2) I2 h5 W _ (k.step (e1.trans e2)).err
  refine po_ok ((E.xt I e1).xt I1 e2) I2 h5 W _ fun N3 H3 e3 I3 => ?_
  cases hz : o.f x l u with
  | none => rw [hz] at h6; cases h6
  | some z =>
    rw [hz] at h6
    cases h6
    exact o.ok I3 (PR.xt I1 (e2.trans e3) r1) hz Q fun w N' H' e4 I4 p => k N' H' (((e1.trans e2).trans e3).trans e4) I4 w (p.up fun a z => ((e1.trans e2).trans e3).free z)⟩
def fSlL : PyData → Option Int → Option Int → Option PyData
  | .list xs, lo, hi => some (.list (cut xs lo hi))
  | _, _, _ => none
def fSlT : PyData → Option Int → Option Int → Option PyData
  | .tuple xs, lo, hi => some (.tuple (cut xs lo hi))
  | _, _, _ => none
def fSlS : PyData → Option Int → Option Int → Option PyData
  | .str x, lo, hi => if x.length ≤ 100000 then some (.str (cutS x lo hi)) else none
  | _, _, _ => none
theorem rps_cut {K : PySem.W.Frag} {N : Addr → Prop} {H : Hp} {xs : List V} {ds : List PyData} {lo hi : Option Int} (r : RpAll K N H xs ds) : RpAll K N H (cutV xs lo hi) (cut ds lo hi) := by
  unfold cutV cut
  rw [r.length]
  exact (r.drop _).take _
def sL (C : Ct) [Nw C] : Sl C .nw := ⟨rSlL C.K, fSlL, fun {s q N H st v x z lo hi} I hx h Q k => by
  unfold fSlL at h
  split at h
  · cases h
    obtain ⟨l, xs, rfl, _, h1, h2⟩ := pk_l hx I.ns
    exact ⟨l, xs, rfl, SqL.of h1, fun p hp => k _ _ _ (Xt.new hp) (I.new hp) (nw_of I hp (rps_cut h2))⟩
  · cases h⟩
def sT (C : Ct) : Sl C .fz := ⟨Tn.rSlN C.K, fSlT, fun {s q N H st v x z lo hi} I hx h Q k => by
  unfold fSlT at h
  split at h
  · cases h
    obtain ⟨l, xs, rfl, h1, h2⟩ := pk_tN hx
    refine ⟨l, xs, rfl, h1.t, fun hw => ?_, fun _ p o hp ho => k _ _ _ (Xt.new hp) (I.new hp) (tp_of I hp ho (rps_cut h2))⟩
    refine k _ _ _ .refl I (.tup h1 ?_)
    have e := rps_cut (lo := lo) (hi := hi) h2
    unfold cutV at e
    rw [hw.1, hw.2, List.drop_zero, Nat.sub_zero, List.take_length] at e
    exact e
  · cases h⟩
def sS (C : Ct) : Sl C .fz := ⟨rSlS, fSlS, fun {s q N H st v x z lo hi} I hx h Q k => by
  unfold fSlS at h
  split at h
  · split at h
    · rename_i hz
      cases h
      exact ⟨_, pk_s hx, sz_of hz, k _ _ _ .refl I (.str _)⟩
    · cases h
  · cases h⟩
end
/-! ### calls -/
abbrev Tab := Nat → List En → Ds → Re PyData
/-- a def that lets nothing out, one that may raise -/
def spF (C : Ct) (R : Tab) (f : Nat) : Sp := fun vs H Q _ => ∃ (s : Sx) (q : Sq) (N : Addr → Prop) (as : List En) (st : Ds) (x : PyData) (st' : Ds), Iv C s q N H st ∧ Paired (fun v n => EnR C s q full N H n (some v)) vs as ∧ R f as st = some (.ok x, st') ∧
  ∀ v N' H', Xt s N H N' H' → Iv C s q N' H' st' → Rp C.K N' H' v x → Q v H'
def spX (C : Ct) (R : Tab) (f : Nat) : Sp := fun vs H Q E => ∃ (s : Sx) (q : Sq) (N : Addr → Prop) (as : List En) (st : Ds) (r : Except Xc PyData) (st' : Ds), Iv C s q N H st ∧ Paired (fun v n => EnR C s q full N H n (some v)) vs as ∧ R f as st = some (r, st') ∧
  Out C s q N H st' r (fun c d H' => E c d H') (fun x N' H' => ∀ v, Rp C.K N' H' v x → Q v H')
/-- only ends are let through -/
def okR (m : Re PyData) : Re PyData := bindR m fun x st => some (.ok x, st)
section
variable {C : Ct} {k : Kd}
def dCall (R : Tab) (f : Nat) (t : DA C) : DE C .fz := ⟨fun W => tCall (spF C R f) [] E0 (t.ta W), fun ρ st => bindR (t.ev ρ st) fun as st1 => match R f as st1 with
  | some (.ok x, st2) => some (.ok x, st2)
  | _ => none, fun {s q H0 N σ H ρ st st' r} E I h W Q k => by
  rcases bindR_inv h with ⟨e, h1, rfl⟩ | ⟨as, st1, h1, h2⟩
  · exact t.ok E I h1 W _ k.err
  · refine t.ok E I h1 W _ fun N1 H1 e1 I1 vs r1 => ?_
    split at h2
    · rename_i x st2 hx
      cases h2
      exact ⟨s, q, N1, as, st1, x, _, I1, by rw [List.append_nil]; exact r1, hx, fun v N' H' e2 I2 p => k _ _ (e1.trans e2) I2 v p⟩
    · cases h2⟩
def dCallX (R : Tab) (f : Nat) (t : DA C) : DE C .fz := ⟨fun W => tCallS (spX C R f) (WE W.W) (t.ta W), fun ρ st => bindR (t.ev ρ st) fun as st1 => R f as st1, fun {s q H0 N σ H ρ st st' r} E I h W Q k => by
  rcases bindR_inv h with ⟨e, h1, rfl⟩ | ⟨as, st1, h1, h2⟩
  · exact t.ok E I h1 W _ k.err
  · refine t.ok E I h1 W _ fun N1 H1 e1 I1 vs r1 => ?_
    exact ⟨s, q, N1, as, st1, r, st', I1, r1, h2, k.step e1⟩⟩
end
/-! ### what is walked over -/
/-- tuples, frozen lists stand -/
structure Fx (N : Addr → Prop) (H : Hp) (N' : Addr → Prop) (H' : Hp) : Prop where
  nn : ∀ a, N a → N' a
  ls : ∀ a o, N a → H a = some o → ntb o = true → H' a = some o
  tp : ∀ a xs, H a = some (.tup xs) → H' a = some (.tup xs)
  fr : ∀ a o u, H a = some (.frz o u) → H' a = some (.frz o u)
theorem Fx.trans {N N1 N2 : Addr → Prop} {H H1 H2 : Hp} (a : Fx N H N1 H1) (b : Fx N1 H1 N2 H2) : Fx N H N2 H2 :=
  ⟨fun c h => b.nn c (a.nn c h), fun c o n h t => b.ls c o (a.nn c n) (a.ls c o n h t) t, fun c o h => b.tp c o (a.tp c o h), fun c o u h => b.fr c o u (a.fr c o u h)⟩
theorem Fx.refl {N : Addr → Prop} {H : Hp} : Fx N H N H := ⟨fun _ h => h, fun _ _ _ h _ => h, fun _ _ h => h, fun _ _ _ h => h⟩
theorem Xt.fx {C : Ct} {s : Sx} {q : Sq} {N N' : Addr → Prop} {H H' : Hp} {ds : Ds} (I : Iv C s q N H ds) (e : Xt s N H N' H') : Fx N H N' H' :=
  ⟨e.nn, fun a o n h t => e.kt (.inr n) (by rintro rfl; exact I.ns n) h t, fun a xs h => e.kt (.inl rfl) (by rintro rfl; exact I.sl _ h rfl) h, fun a o u h => e.kt (.inl rfl) (by rintro rfl; exact I.sl _ h rfl) h⟩
theorem Fx.mut {N : Addr → Prop} {H : Hp} {l : Addr} {us : List V} {o : HO} (hl : H l = some (.lst us)) (hn : ¬ N l) : Fx N H N (upd H l o) :=
  ⟨fun _ h => h, fun a o n h _ => by rw [upd_ne (by rintro rfl; exact hn n)]; exact h, fun a xs h => by rw [upd_ne (by rintro rfl; rw [hl] at h; cases h)]; exact h, fun a o u h => by rw [upd_ne (by rintro rfl; rw [hl] at h; cases h)]; exact h⟩
theorem Fx.frz {N : Addr → Prop} {H : Hp} {l : Addr} : Fx N H (fzN N l) H := ⟨fun _ h => .inl h, fun _ _ _ h _ => h, fun _ _ h => h, fun _ _ _ h => h⟩
section
variable {N N' : Addr → Prop} {H H' : Hp} {K : PySem.W.Frag}
theorem Fx.sqN (e : Fx N H N' H') {a : Addr} {xs : List V} (h : Tn.SqN K H a xs) : Tn.SqN K H' a xs := by
  rcases h with ⟨o, h, hd⟩ | h
  · exact .inl ⟨o, e.fr _ _ _ h, hd⟩
  · exact .inr h
theorem Fx.sqT (e : Fx N H N' H') {a : Addr} {xs : List V} (h : SqT K H a xs) : SqT K H' a xs := by
  rcases h with (h | ⟨o, h⟩) | h
  · exact .inl (.inl (e.tp _ _ h))
  · exact .inl (.inr ⟨o, e.fr _ _ _ h⟩)
  · exact .inr h
mutual
theorem Fx.rp (e : Fx N H N' H') : ∀ {d : PyData} {v : V}, Rp K N H v d → Rp K N' H' v d
  | _, _, .non => .non
  | _, _, .bl b => .bl b
  | _, _, .int i => .int i
  | _, _, .str x => .str x
  | _, _, .lst n h r => .lst (e.nn _ n) (e.ls _ _ n h rfl) (Fx.rps e r)
  | _, _, .tup h r => .tup (e.sqN h) (Fx.rps e r)
  | _, _, .dic n h r l z => .dic (e.nn _ n) (e.ls _ _ n h rfl) (Fx.rps e r) l z
  | _, _, .obj n h r l z => .obj (e.nn _ n) (e.ls _ _ n h rfl) (Fx.rps e r) l z
theorem Fx.rps (e : Fx N H N' H') : ∀ {ds : List PyData} {vs : List V}, RpAll K N H vs ds → RpAll K N' H' vs ds
  | _, _, .nil => .nil
  | _, _, .cons h r => .cons (Fx.rp e h) (Fx.rps e r)
end
end
/-- J walks over ds, as long as things stand -/
def Wk (K : PySem.W.Frag) (s : Sx) (k : Kd) (N : Addr → Prop) (H : Hp) (J : It) (ds : List PyData) : Prop :=
  ∃ (xs : List V) (G : Hp → Prop), Walk J xs.length G (YAt xs) ∧ RpAll K N H xs ds ∧ match k with
    | .fz => ∀ N' H', Fx N H N' H' → G H'
    | _ => ∀ N' H', Xt s N H N' H' → G H'
structure DI (C : Ct) (k : Kd) where
  ti : Wc → TI
  ev : Rho → Ds → Re (List PyData)
  ok : ∀ {s : Sx} {q : Sq} {H0 : Hp} {N : Addr → Prop} {σ : L2.St} {H : Hp} {ρ : Rho} {st st' : Ds} {r : Except Xc (List PyData)}, Ev C s q H0 N H σ ρ → Iv C s q N H st → ev ρ st = some (r, st') → ∀ (W : WX) (R : It → Hp → Prop),
    Out C s q N H st' r (fun c d H' => W c d σ H') (fun ds N' H' => ∀ J, Wk C.K s k N' H' J ds → R J H') → ti ⟨W, q.ax⟩ σ H R
section
variable {C : Ct}
def iL (a : DE C .fz) : DI C .fz := ⟨fun W => iList C.K (a.te W), fun ρ st => bindR (a.ev ρ st) fun x st1 => match x with
  | .list ds => some (.ok ds, st1)
  | _ => none, fun {s q H0 N σ H ρ st st' r} E I h W Q k => by
  rcases bindR_inv h with ⟨e, h1, rfl⟩ | ⟨x, st1, h1, h2⟩
  · exact a.ok E I h1 W _ k.err
  · refine a.ok E I h1 W _ fun N1 H1 e1 I1 v r1 => ?_
    split at h2
    · cases h2
      obtain ⟨l, xs, rfl, hn, h3, h4⟩ := Rp.lst_of r1
      exact ⟨l, rfl, ⟨xs, SqL.of h3⟩, k _ _ e1 I1 _ ⟨xs, _, walk_list, h4, fun N' H' e => SqL.of (e.ls _ _ hn h3 rfl)⟩⟩
    · cases h2⟩
def iLp (a : DE C .pk) : DI C .pk := ⟨fun W => iList C.K (a.te W), fun ρ st => bindR (a.ev ρ st) fun x st1 => match x with
  | .list ds => some (.ok ds, st1)
  | _ => none, fun {s q H0 N σ H ρ st st' r} E I h W Q k => by
  rcases bindR_inv h with ⟨e, h1, rfl⟩ | ⟨x, st1, h1, h2⟩
  · exact a.ok E I h1 W _ k.err
  · refine a.ok E I h1 W _ fun N1 H1 e1 I1 v r1 => ?_
    split at h2
    · cases h2
      obtain ⟨l, xs, rfl, hn, h3, h4⟩ := pk_l r1 I1.ns
      exact ⟨l, rfl, ⟨xs, SqL.of h3⟩, k _ _ e1 I1 _ ⟨xs, _, walk_list, h4, fun N' H' e => SqL.of (e.kl hn h3)⟩⟩
    · cases h2⟩
def iT (a : DE C .pk) : DI C .fz := ⟨fun W => iTup C.K (a.te W), fun ρ st => bindR (a.ev ρ st) fun x st1 => match x with
  | .tuple ds => some (.ok ds, st1)
  | _ => none, fun {s q H0 N σ H ρ st st' r} E I h W Q k => by
  rcases bindR_inv h with ⟨e, h1, rfl⟩ | ⟨x, st1, h1, h2⟩
  · exact a.ok E I h1 W _ k.err
  · refine a.ok E I h1 W _ fun N1 H1 e1 I1 v r1 => ?_
    split at h2
    · cases h2
      obtain ⟨l, xs, rfl, h3, h4⟩ := pk_t r1
      exact ⟨l, rfl, ⟨xs, h3⟩, k _ _ e1 I1 _ ⟨xs, _, walk_tup, h4, fun N' H' e => e.sqT h3⟩⟩
    · cases h2⟩
theorem rps_map {α : Type} {K : PySem.W.Frag} {N : Addr → Prop} {H : Hp} {f : α → V} {g : α → PyData} (h : ∀ a, Rp K N H (f a) (g a)) : ∀ {l : List α}, RpAll K N H (l.map f) (l.map g)
  | [] => .nil
  | a :: r => .cons (h a) (rps_map h)
def fSigns (x : Str) : List PyData := x.cps.toList.map fun c => .str ⟨#[c]⟩
def iS (a : DE C .pk) : DI C .fz := ⟨fun W => iStr (a.te W), fun ρ st => bindR (a.ev ρ st) fun x st1 => match x with
  | .str x => some (.ok (fSigns x), st1)
  | _ => none, fun {s q H0 N σ H ρ st st' r} E I h W Q k => by
  rcases bindR_inv h with ⟨e, h1, rfl⟩ | ⟨x, st1, h1, h2⟩
  · exact a.ok E I h1 W _ k.err
  · refine a.ok E I h1 W _ fun N1 H1 e1 I1 v r1 => ?_
    split at h2
    · rename_i x
      cases h2
      refine ⟨x, pk_s r1, k _ _ e1 I1 _ ⟨x.cps.toList.map fun c => V.str ⟨#[c]⟩, fun _ => True, ?_, rps_map fun c => .str _, fun _ _ _ => trivial⟩⟩
      rw [List.length_map, Array.length_toList]
      refine walk_str.mono (fun _ h => h) fun i H v H' _ _ y => ?_
      obtain ⟨rfl, c, hc, rfl⟩ := y
      refine ⟨rfl, ?_⟩
      rw [List.getElem?_map, Array.getElem?_toList, hc]
      rfl
    · cases h2⟩
def rngD (lo : Int) (n : Nat) : List PyData := (List.range n).map fun i => .int (lo + (i : Nat))
theorem wk_rng {K : PySem.W.Frag} {s : Sx} {N : Addr → Prop} {H : Hp} {lo : Int} {n : Nat} : Wk K s .fz N H (Itr lo n) (rngD lo n) := by
  refine ⟨(List.range n).map fun i => V.int (lo + (i : Nat)), fun _ => True, ?_, rps_map fun c => .int _, fun _ _ _ => trivial⟩
  rw [List.length_map, List.length_range]
  refine walk_range.mono (fun _ h => h) fun i H v H' hi _ y => ?_
  obtain ⟨rfl, rfl⟩ := y
  refine ⟨rfl, ?_⟩
  rw [List.getElem?_map, List.getElem?_range hi]
  rfl
def iR1 (a : DE C .pk) : DI C .fz := ⟨fun W => iRng1 (tCons (a.te W) tNil), fun ρ st => bindR (a.ev ρ st) fun x st1 => match x with
  | .int j => if j.natAbs < 4611686018427387904 then some (.ok (rngD 0 j.toNat), st1) else none
  | _ => none, fun {s q H0 N σ H ρ st st' r} E I h W Q k => by
  rcases bindR_inv h with ⟨e, h1, rfl⟩ | ⟨x, st1, h1, h2⟩
  · exact a.ok E I h1 W _ k.err
  · refine a.ok E I h1 W _ fun N1 H1 e1 I1 v r1 => ?_
    split at h2
    · split at h2
      · rename_i hj
        cases h2
        cases pk_i r1
        exact ⟨_, rfl, by omega, by omega, k _ _ e1 I1 _ wk_rng⟩
      · cases h2
    · cases h2⟩
def iR2 (a b : DE C .pk) : DI C .fz := ⟨fun W => iRng2 (tCons (a.te W) (tCons (b.te W) tNil)), fun ρ st => bindR (a.ev ρ st) fun x st1 => bindR (b.ev ρ st1) fun y st2 => match x, y with
  | .int i, .int j => if i.natAbs < 4611686018427387904 ∧ j.natAbs < 4611686018427387904 then some (.ok (rngD i (j - i).toNat), st2) else none
  | _, _ => none, fun {s q H0 N σ H ρ st st' r} E I h W Q k => by
  rcases bindR_inv h with ⟨e, h1, rfl⟩ | ⟨x, st1, h1, h2⟩
  · exact a.ok E I h1 W _ k.err
  · refine a.ok E I h1 W _ fun N1 H1 e1 I1 v r1 => ?_
    rcases bindR_inv h2 with ⟨e, h3, rfl⟩ | ⟨y, st2, h3, h4⟩
    · exact b.ok (E.xt I e1) I1 h3 W _ (k.step e1).err
    · refine b.ok (E.xt I e1) I1 h3 W _ fun N2 H2 e2 I2 w r2 => ?_
      split at h4
      · split at h4
        · rename_i hj
          cases h4
          cases pk_i r1
          cases pk_i r2
          exact ⟨_, _, rfl, ⟨by omega, by omega, by omega, by omega⟩, k _ _ (e1.trans e2) I2 _ wk_rng⟩
        · cases h4
      · cases h4⟩
/-! ### slots that are set -/
theorem Ev.set {s : Sx} {q : Sq} {H0 : Hp} {N : Addr → Prop} {H : Hp} {σ : L2.St} {ρ : Rho} (E : Ev C s q H0 N H σ ρ) {i : Nat} {n : En} {o : Option V} (h : EnR C s q H0 N H n o)
    (hd : ∀ a, Ow H n o a → ∀ (j : Nat) (e : En) (u : Option V), j ≠ i → ρ[j]? = some e → σ[j]? = some u → Ow H e u a → False) : Ev C s q H0 N H (σ.set i o) (ρ.set i n) := by
  have self : ∀ {α : Type} {xs : List α} {x y : α}, (xs.set i x)[i]? = some y → y = x := fun {α xs x y} h => by
    have hlt : i < xs.length := by
      have := (List.getElem?_eq_some_iff.mp h).1
      rw [List.length_set] at this
      exact this
    rw [List.getElem?_set_self hlt] at h
    cases h
    rfl
  refine ⟨by rw [List.length_set, List.length_set, E.len], fun j e u h1 h2 => ?_, fun j1 j2 e1 e2 u1 u2 a hj h1 h2 h3 h4 w1 w2 => ?_⟩
  · by_cases hj : i = j
    · subst hj
      cases self h1
      cases self h2
      exact h
    · rw [List.getElem?_set_ne hj] at h1 h2
      exact E.at_ j e u h1 h2
  · by_cases k1 : i = j1
    · subst k1
      cases self h1
      cases self h3
      rw [List.getElem?_set_ne hj] at h2 h4
      exact hd a w1 j2 e2 u2 (fun z => hj z.symm) h2 h4 w2
    · rw [List.getElem?_set_ne k1] at h1 h3
      by_cases k2 : i = j2
      · subst k2
        cases self h2
        cases self h4
        exact hd a w2 j1 e1 u1 (fun z => k1 z.symm) h1 h3 w1
      · rw [List.getElem?_set_ne k2] at h2 h4
        exact E.dis j1 j2 e1 e2 u1 u2 a hj h1 h2 h3 h4 w1 w2
theorem Ev.setD {s : Sx} {q : Sq} {H0 : Hp} {N : Addr → Prop} {H : Hp} {σ : L2.St} {ρ : Rho} (E : Ev C s q H0 N H σ ρ) {i : Nat} {v : V} {x : PyData} (h : Rp C.K N H v x) : Ev C s q H0 N H (σ.set i (some v)) (ρ.set i (.d x)) :=
  E.set ⟨v, rfl, h⟩ fun _ z => z.elim
theorem Ev.setNo {s : Sx} {q : Sq} {H0 : Hp} {N : Addr → Prop} {H : Hp} {σ : L2.St} {ρ : Rho} (E : Ev C s q H0 N H σ ρ) {i : Nat} {o : Option V} : Ev C s q H0 N H (σ.set i o) (ρ.set i .no) :=
  E.set trivial fun _ z => z.elim
theorem set_same {α : Type} {xs : List α} {i : Nat} {x : α} (h : xs[i]? = some x) : xs.set i x = xs := by
  apply List.ext_getElem?
  intro j
  by_cases hj : i = j
  · subst hj
    rw [List.getElem?_set_self (List.getElem?_eq_some_iff.mp h).1, h]
  · rw [List.getElem?_set_ne hj]
/-- slot i's own list l is changed -/
theorem Ev.chg {s : Sx} {q : Sq} {H0 : Hp} {N : Addr → Prop} {H : Hp} {σ : L2.St} {ρ : Rho} (E : Ev C s q H0 N H σ ρ) {i : Nat} {n n' : En} {o : Option V} {l : Addr} {w : HO} (hi : ρ[i]? = some n) (ho : σ[i]? = some o) (hw : Ow H n o l)
    (h : EnR C s q H0 N (upd H l w) n' o) (hs : ∀ a, Ow (upd H l w) n' o a → Ow H n o a) : Ev C s q H0 N (upd H l w) σ (ρ.set i n') := by
  obtain ⟨⟨us, hl⟩, hn, _, _⟩ := (E.at_ i n o hi ho).ow hw
  have no : ∀ (j : Nat) (e : En) (u : Option V), j ≠ i → ρ[j]? = some e → σ[j]? = some u → ¬ Ow H e u l := fun j e u hj h1 h2 z => E.dis j i e n u o l hj h1 hi h2 ho z hw
  have bk : ∀ (j : Nat) (e : En) (u : Option V) (a : Addr), j ≠ i → ρ[j]? = some e → σ[j]? = some u → Ow (upd H l w) e u a → Ow H e u a := fun j e u a hj h1 h2 z =>
    (E.at_ j e u h1 h2).ow_back (fun b x y hb => by rw [upd_ne (by rintro rfl; exact no j e u hj h1 h2 y)]; exact hb) (fun b xs hb => by rw [upd_ne (by rintro rfl; rw [hl] at hb; cases hb)]; exact hb) z
  have self : ∀ {y : En}, (ρ.set i n')[i]? = some y → y = n' := fun {y} h => by
    rw [List.getElem?_set_self (List.getElem?_eq_some_iff.mp hi).1] at h
    cases h
    rfl
  refine ⟨by rw [List.length_set]; exact E.len, fun j e u h1 h2 => ?_, fun j1 j2 e1 e2 u1 u2 a hj h1 h2 h3 h4 w1 w2 => ?_⟩
  · by_cases hj : i = j
    · subst hj
      cases self h1
      rw [ho] at h2
      cases h2
      exact h
    · rw [List.getElem?_set_ne hj] at h1
      exact (E.at_ j e u h1 h2).chg hl hn (no j e u (fun z => hj z.symm) h1 h2)
  · by_cases k1 : i = j1
    · subst k1
      cases self h1
      rw [ho] at h3
      cases h3
      rw [List.getElem?_set_ne hj] at h2
      exact E.dis i j2 n e2 o u2 a hj hi h2 ho h4 (hs a w1) (bk j2 e2 u2 a (fun z => hj z.symm) h2 h4 w2)
    · rw [List.getElem?_set_ne k1] at h1
      by_cases k2 : i = j2
      · subst k2
        cases self h2
        rw [ho] at h4
        cases h4
        exact E.dis j1 i e1 n u1 o a hj h1 hi h3 ho (bk j1 e1 u1 a hj h1 h3 w1) (hs a w2)
      · rw [List.getElem?_set_ne k2] at h2
        exact E.dis j1 j2 e1 e2 u1 u2 a hj h1 h2 h3 h4 (bk j1 e1 u1 a (fun z => k1 z.symm) h1 h3 w1) (bk j2 e2 u2 a (fun z => k2 z.symm) h2 h4 w2)
def wipeR (ρ : Rho) : List Nat → Rho
  | [] => ρ
  | v :: vs => (wipeR ρ vs).set v .no
theorem Ev.wipe {s : Sx} {q : Sq} {H0 : Hp} {N : Addr → Prop} {H : Hp} {σ : L2.St} {ρ : Rho} (E : Ev C s q H0 N H σ ρ) : ∀ vs : List Nat, Ev C s q H0 N H (wipe σ vs) (wipeR ρ vs)
  | [] => E
  | v :: vs => (Ev.wipe E vs).setNo
/-- targets: a name; names -/
structure DG (C : Ct) where
  sl : List Nat
  g : TG
  up : Rho → PyData → Option Rho
  ok : ∀ {s : Sx} {q : Sq} {H0 : Hp} {N : Addr → Prop} {H : Hp} {σ : L2.St} {ρ ρ' : Rho} {v : V} {x : PyData} {Q : L2.St → Hp → Prop}, Ev C s q H0 N H σ ρ → Rp C.K N H v x → up ρ x = some ρ' → (∀ σ', Ev C s q H0 N H σ' ρ' → wipe σ' sl = wipe σ sl → Q σ' H) → g v σ H Q
def gN (C : Ct) (i : Nat) : DG C := ⟨[i], gName i, fun ρ x => some (ρ.set i (.d x)), fun E r h k => by
  cases h
  exact k _ (E.setD r) (by show (List.set _ _ _).set _ _ = List.set _ _ _; exact List.set_set ..)⟩
def setAll (ρ : Rho) : List Nat → List PyData → Option Rho
  | [], [] => some ρ
  | i :: is, x :: xs => setAll (ρ.set i (.d x)) is xs
  | _, _ => none
def gNs : List Nat → TGs
  | [] => gNil
  | i :: is => gCons (gName i) (gNs is)
theorem wipe_set_mem {σ : L2.St} {i : Nat} {o : Option V} : ∀ {vs : List Nat}, i ∈ vs → wipe (σ.set i o) vs = wipe σ vs
  | v :: vs, h => by
    by_cases hv : i ∈ vs
    · show (wipe (σ.set i o) vs).set v none = (wipe σ vs).set v none
      rw [wipe_set_mem hv]
    · have e : i = v := by
        rcases List.mem_cons.mp h with h | h
        · exact h
        · exact absurd h hv
      subst e
      have key : ∀ {us : List Nat} {τ : L2.St}, i ∉ us → wipe (τ.set i o) us = (wipe τ us).set i o := by
        intro us
        induction us with
        | nil => intro τ _; rfl
        | cons u us ih =>
          intro τ hn
          have h1 : i ∉ us := fun h => hn (List.mem_cons_of_mem _ h)
          have h2 : u ≠ i := fun h => hn (by rw [h]; exact List.mem_cons_self)
          show (wipe (τ.set i o) us).set u none = ((wipe τ us).set u none).set i o
          rw [ih h1, List.set_comm _ _ (fun z => h2 z.symm)]
      show (wipe (σ.set i o) vs).set i none = (wipe σ vs).set i none
      rw [key hv, List.set_set]
theorem gNs_ok {s : Sx} {q : Sq} {H0 : Hp} {N : Addr → Prop} {H : Hp} {all : List Nat} : ∀ {is : List Nat} {σ : L2.St} {ρ ρ' : Rho} {vs : List V} {xs : List PyData} {Q : L2.St → Hp → Prop}, (∀ i, i ∈ is → i ∈ all) → Ev C s q H0 N H σ ρ → RpAll C.K N H vs xs → setAll ρ is xs = some ρ' →
    (∀ σ', Ev C s q H0 N H σ' ρ' → wipe σ' all = wipe σ all → Q σ' H) → gNs is vs σ H Q
  | [], σ, ρ, ρ', vs, [], Q, _, E, r, h, k => by
    cases r
    cases h
    exact ⟨rfl, k _ E rfl⟩
  | [], σ, ρ, ρ', vs, _ :: _, Q, _, E, r, h, k => by cases h
  | i :: is, σ, ρ, ρ', vs, [], Q, _, E, r, h, k => by cases h
  | i :: is, σ, ρ, ρ', _, x :: xs, Q, m, E, .cons r rs, h, k => ⟨_, _, rfl, gNs_ok (fun j hj => m j (List.mem_cons_of_mem _ hj)) (E.setD r) rs h fun σ' E' w => k σ' E' (w.trans (wipe_set_mem (m i List.mem_cons_self)))⟩
theorem setAll_len {is : List Nat} : ∀ {ρ ρ' : Rho} {xs : List PyData}, setAll ρ is xs = some ρ' → xs.length = is.length := by
  induction is with
  | nil => intro ρ ρ' xs h; cases xs with
    | nil => rfl
    | cons _ _ => cases h
  | cons i is ih => intro ρ ρ' xs h; cases xs with
    | nil => cases h
    | cons x xs => exact congrArg (· + 1) (ih h)
def gT (C : Ct) (is : List Nat) : DG C := ⟨is, gTup C.K is.length (gNs is), fun ρ x => match x with
  | .tuple xs => setAll ρ is xs
  | _ => none, fun {s q H0 N H σ ρ ρ' v x Q} E r h k => by
  split at h
  · obtain ⟨a, vs, rfl, h1, h2⟩ := Rp.tup_of r
    exact ⟨a, vs, rfl, h1, by rw [h2.length, setAll_len h], gNs_ok (fun _ h => h) E h2 h k⟩
  · cases h⟩
/-! ### list comprehensions -/
def lcEv (g : DG C) (t : DT C) (e : DE C .fz) (ρ : Rho) : List PyData → Ds → Option (List PyData × Ds)
  | [], st => some ([], st)
  | x :: xs, st => match g.up (wipeR ρ g.sl) x with
    | none => none
    | some ρ' => match t.ev ρ' st with
      | some (.ok true, st1) => match e.ev ρ' st1 with
        | some (.ok y, st2) => (lcEv g t e ρ xs st2).map fun r => (y :: r.1, r.2)
        | _ => none
      | some (.ok false, st1) => lcEv g t e ρ xs st1
      | _ => none
theorem lcEv_len {g : DG C} {t : DT C} {e : DE C .fz} {ρ : Rho} : ∀ {xs : List PyData} {st : Ds} {ys : List PyData} {st' : Ds}, lcEv g t e ρ xs st = some (ys, st') → ys.length ≤ xs.length
  | [], st, ys, st', h => by cases h; exact Nat.le_refl _
  | x :: xs, st, ys, st', h => by
    unfold lcEv at h
    split at h
    · cases h
    · split at h
      · split at h
        · rename_i st2 he
          cases hr : lcEv g t e ρ xs st2 with
          | none => rw [hr] at h; cases h
          | some z =>
            rw [hr] at h
            cases h
            exact Nat.succ_le_succ (lcEv_len hr)
        · cases h
      · exact Nat.le_succ_of_le (lcEv_len h)
      · cases h
end
end De

namespace De
open PySem L2 Dx
section
variable {C : Ct} {k : Kd}
/-- a walk while only new things are laid (kinds) -/
theorem Wk.xt {K : PySem.W.Frag} {s : Sx} {q : Sq} {N : Addr → Prop} {H : Hp} {J : It} {ds : List PyData} {st : Ds} (I : Iv C s q N H st) (w : Wk K s k N H J ds) : ∃ (xs : List V) (G : Hp → Prop), Walk J xs.length G (YAt xs) ∧ RpAll K N H xs ds ∧ ∀ N' H', Xt s N H N' H' → G H' := by
  obtain ⟨xs, G, h1, h2, h3⟩ := w
  refine ⟨xs, G, h1, h2, fun N' H' e => ?_⟩
  cases k with
  | fz => exact h3 N' H' (e.fx I)
  | pk => exact h3 N' H' e
  | nw => exact h3 N' H' e
theorem lcEv_cons {g : DG C} {t : DT C} {e : DE C .fz} {ρ : Rho} {x : PyData} {xs : List PyData} {st st' : Ds} {ys : List PyData} (h : lcEv g t e ρ (x :: xs) st = some (ys, st')) :
    ∃ ρ', g.up (wipeR ρ g.sl) x = some ρ' ∧ ((∃ st1 y st2 zs, t.ev ρ' st = some (.ok true, st1) ∧ e.ev ρ' st1 = some (.ok y, st2) ∧ lcEv g t e ρ xs st2 = some (zs, st') ∧ ys = y :: zs) ∨ ∃ st1, t.ev ρ' st = some (.ok false, st1) ∧ lcEv g t e ρ xs st1 = some (ys, st')) := by
  unfold lcEv at h
  split at h
  · cases h
  · rename_i ρ' hg
    refine ⟨ρ', hg, ?_⟩
    split at h
    · rename_i st1 ht
      split at h
      · rename_i y st2 he
        cases hr : lcEv g t e ρ xs st2 with
        | none => rw [hr] at h; cases h
        | some z =>
          rw [hr] at h
          cases h
          exact .inl ⟨st1, y, st2, z.1, ht, he, hr, rfl⟩
      · cases h
    · rename_i st1 ht
      exact .inr ⟨st1, ht, h⟩
    · cases h
theorem wipe_wipe {σ : L2.St} : ∀ (ws vs : List Nat), (∀ i, i ∈ ws → i ∈ vs) → wipe (wipe σ ws) vs = wipe σ vs
  | [], _, _ => rfl
  | w :: ws, vs, h => (wipe_set_mem (h w List.mem_cons_self)).trans (wipe_wipe ws vs fun i hi => h i (List.mem_cons_of_mem _ hi))
def dLc [Nw C] (w : DI C k) (g : DG C) (t : DT C) (e : DE C .fz) : DE C .nw := ⟨fun W => tLc (w.ti W) g.g (t.tt W) (e.te W) g.sl, fun ρ st => bindR (w.ev ρ st) fun ds st1 => if ds.length ≤ 100000 then (lcEv g t e ρ ds st1).map fun r => (.ok (.list r.1), r.2) else none,
  fun {s q H0 N σ H ρ st st' r} E I h W Q k => by
  rcases bindR_inv h with ⟨x, h1, rfl⟩ | ⟨ds, st1, h1, h2⟩
  · exact w.ok E I h1 W _ k.err
  refine w.ok E I h1 W _ fun N1 H1 e1 I1 J wk D hD => ?_
  split at h2
  · rename_i hz
    cases hr : lcEv g t e ρ ds st1 with
    | none => rw [hr] at h2; cases h2
    | some z =>
      rw [hr] at h2
      cases h2
      obtain ⟨xs, G, hw, hx, hG⟩ := Wk.xt I1 wk
      have hlen := hx.length
      have ll := lcEv_len hr
      let Pv : Nat → Hp → Prop := fun i H => ∃ (N' : Addr → Prop) (sti : Ds) (acc : List V) (ad rest : List PyData), Xt s N1 H1 N' H ∧ Iv C s q N' H sti ∧ ¬ N' D ∧ H D = some (.lst acc) ∧ RpAll C.K N' H acc ad ∧
        lcEv g t e ρ (ds.drop i) sti = some (rest, z.2) ∧ z.1 = ad ++ rest ∧ ad.length ≤ i
      have nD : ¬ N1 D := fun n => I1.na D n hD
      have sD : Nt s D := I1.nt hD
      refine lc_it hw Pv ⟨N1, st1, [], [], z.1, Xt.new hD, I1.new hD, nD, upd_same, .nil, hr, rfl, Nat.le_refl _⟩ (fun i H' _ ⟨N', sti, acc, ad, rest, x1, _⟩ => hG N' H' x1) ?_ ?_
      · rintro i v H2 H3 hi ⟨N', sti, acc, ad, rest, x1, i1, nd, hd, ra, hl, hz2, hal⟩ ⟨rfl, hv⟩
        obtain ⟨x, hx1, hx2⟩ := hx.get hv
        have hdrop : ds.drop i = x :: ds.drop (i + 1) := by
          have hlt : i < ds.length := by rw [← hlen]; exact hi
          rw [List.drop_eq_getElem_cons hlt]
          rw [List.getElem?_eq_getElem hlt] at hx1
          cases hx1
          rfl
        rw [hdrop] at hl
        obtain ⟨ρ', hup, hc⟩ := lcEv_cons hl
        have E2 : Ev C s q H0 N' H3 (wipe σ g.sl) (wipeR ρ g.sl) := ((E.xt I e1).xt I1 x1).wipe g.sl
        refine g.ok E2 (I1.rp x1 hx2) hup fun σ' E3 hwp => ?_
        refine ⟨hwp.trans (wipe_wipe g.sl g.sl fun _ h => h), ?_⟩
        rcases hc with ⟨sta, y, stb, zs, ht, he, hre, hys⟩ | ⟨sta, ht, hre⟩
        · refine t.ok E3 i1 ht W _ fun Na Ha xa ia => ?_
          refine iteT (e.ok (E3.xt i1 xa) ia he W _ fun Nb Hb xb ib u ru => ?_)
          have x2 := xa.trans xb
          have hd2 : Hb D = some (.lst acc) := x2.kp _ _ sD hd
          have nd2 : ¬ Nb D := fun n => (x2.nw D n).elim nd fun z => z.elim (fun z => by rw [hd] at z; cases z) sD.2
          refine ⟨acc, hd2, ?_, ?_⟩
          · have h3 : acc.length ≤ i := by rw [ra.length]; exact hal
            have h4 : i < ds.length := by rw [← hlen]; exact hi
            exact sz_lt (by omega)
          · subst hys
            have xm : Xt s N1 H1 Nb (upd Hb D (.lst (acc ++ [u]))) := by
              exact (x1.trans x2).updO hD
            refine ⟨Nb, stb, acc ++ [u], ad ++ [y], zs, xm, ⟨fun a n => ?_, ib.ns, ?_, I1.hq.keep xm.kp0, ib.sc, ib.nS, ib.sS, fun m a h => ib.fS m a (upd_none h), ib.pn, tabs_upd ib.tb hd2 rfl⟩, nd2, upd_same, ?_, hre, by rw [hz2, List.append_assoc]; rfl, by rw [List.length_append]; exact Nat.succ_le_succ hal⟩
            · by_cases ha : a = D
              · subst ha; exact absurd n nd2
              · rw [upd_ne ha]; exact ib.na a n
            · exact ib.hs.updO hd2 nd2 sD
            · exact (rps_mut hd2 nd2 (ib.rps .refl (i1.rps x2 ra))).app (.cons (rp_mut hd2 nd2 ru) .nil)
        · refine t.ok E3 i1 ht W _ fun Na Ha xa ia => ?_
          refine iteF ⟨Na, sta, acc, ad, rest, x1.trans xa, ia, fun n => (xa.nw D n).elim nd fun z => z.elim (fun z => by rw [hd] at z; cases z) sD.2, xa.kp _ _ sD hd, i1.rps xa ra, hre, hz2, Nat.le_succ_of_le hal⟩
      · rintro H2 ⟨N', sti, acc, ad, rest, x1, i1, nd, hd, ra, hl, hz2, hal⟩
        rw [hlen, List.drop_length] at hl
        cases hl
        rw [List.append_nil] at hz2
        refine k N' H2 (e1.trans x1) i1 _ ⟨D, acc, ad, rfl, by rw [hz2], e1.free hD, nd, sD, hd, ra⟩
  · cases h2⟩
end
end De

namespace De
open PySem L2 Dx
/-! ### statements -/
inductive Fl where
  | nx
  | bk
  | ct
  | rt (x : PyData)
  | xc (e : Xc)
abbrev Rs' := Option (Fl × Rho × Ds)
/-- the state of a def's body: what stood at its entry stands -/
structure Sv (C : Ct) (s : Sx) (q : Sq) (N0 : Addr → Prop) (H0 : Hp) (N : Addr → Prop) (H : Hp) (σ : L2.St) (ρ : Rho) (st : Ds) : Prop where
  E : Ev C s q H0 N H σ ρ
  I : Iv C s q N H st
  X : Xt s N0 H0 N H
  J : Iv C s q N0 H0 st → True := fun _ => trivial
  hq : Scr C.K H0 s q.a (q.sc.map V.int)
def SOut (C : Ct) (s : Sx) (q : Sq) (N0 : Addr → Prop) (H0 : Hp) (N : Addr → Prop) (H : Hp) (fl : Fl) (ρ' : Rho) (st' : Ds) (W : WX) (D : Ends) : Prop :=
  match fl with
  | .nx => ∀ σ' N' H', Sv C s q N0 H0 N' H' σ' ρ' st' → Fx N H N' H' → D.nx σ' H'
  | .bk => ∀ σ' N' H', Sv C s q N0 H0 N' H' σ' ρ' st' → Fx N H N' H' → D.bk σ' H'
  | .ct => ∀ σ' N' H', Sv C s q N0 H0 N' H' σ' ρ' st' → Fx N H N' H' → D.ct σ' H'
  | .rt x => ∀ v N' H', Xt s N0 H0 N' H' → Iv C s q N' H' st' → Rp C.K N' H' v x → D.rt v H'
  | .xc e => ∀ d σ' N' H', Sv C s q N0 H0 N' H' σ' ρ' st' → Fx N H N' H' → XcR C N' H' d e → W (.ref (C.ca e.x)) (some d) σ' H'
section
variable {C : Ct} {k : Kd} {s : Sx} {q : Sq} {N0 N N1 N' : Addr → Prop} {H0 H H1 H' : Hp} {σ : L2.St} {ρ ρ' : Rho} {st st' st1 : Ds} {W : WX} {D : Ends} {fl : Fl}
theorem SOut.step (e : Fx N H N1 H1) (h : SOut C s q N0 H0 N H fl ρ' st' W D) : SOut C s q N0 H0 N1 H1 fl ρ' st' W D := by
  cases fl with
  | nx => exact fun σ' N' H' v x => h σ' N' H' v (e.trans x)
  | bk => exact fun σ' N' H' v x => h σ' N' H' v (e.trans x)
  | ct => exact fun σ' N' H' v x => h σ' N' H' v (e.trans x)
  | rt x => exact h
  | xc x => exact fun d σ' N' H' v x => h d σ' N' H' v (e.trans x)
theorem Sv.xt (v : Sv C s q N0 H0 N H σ ρ st) (e : Xt s N H N' H') (I : Iv C s q N' H' st') : Sv C s q N0 H0 N' H' σ ρ st' := ⟨v.E.xt v.I e, I, v.X.trans e, fun _ => trivial, v.hq⟩
theorem Sv.setD (v : Sv C s q N0 H0 N H σ ρ st) {i : Nat} {u : V} {x : PyData} (h : Rp C.K N H u x) : Sv C s q N0 H0 N H (σ.set i (some u)) (ρ.set i (.d x)) st := ⟨v.E.setD h, v.I, v.X, fun _ => trivial, v.hq⟩
theorem Sv.setNo (v : Sv C s q N0 H0 N H σ ρ st) {i : Nat} {o : Option V} : Sv C s q N0 H0 N H (σ.set i o) (ρ.set i .no) st := ⟨v.E.setNo, v.I, v.X, fun _ => trivial, v.hq⟩
structure DSt (C : Ct) where
  ts : Wc → TS
  ev : Rho → Ds → Rs'
  ok : ∀ {s : Sx} {q : Sq} {N0 : Addr → Prop} {H0 : Hp} {N : Addr → Prop} {H : Hp} {σ : L2.St} {ρ ρ' : Rho} {st st' : Ds} {fl : Fl}, Sv C s q N0 H0 N H σ ρ st → ev ρ st = some (fl, ρ', st') → ∀ (W : WX) (D : Ends), SOut C s q N0 H0 N H fl ρ' st' W D → ts ⟨W, q.ax⟩ D σ H
def bindS {α : Type} (m : Re α) (ρ : Rho) (f : α → Ds → Rs') : Rs' :=
  match m with
  | none => none
  | some (.error e, st) => some (.xc e, ρ, st)
  | some (.ok a, st) => f a st
@[simp] theorem bindS_ok {α : Type} {f : α → Ds → Rs'} {a : α} : bindS (some (.ok a, st)) ρ f = f a st := rfl
@[simp] theorem bindS_err {α : Type} {f : α → Ds → Rs'} {e : Xc} : bindS (some (.error e, st)) ρ f = some (.xc e, ρ, st) := rfl
theorem bindS_inv {α : Type} {m : Re α} {f : α → Ds → Rs'} (h : bindS m ρ f = some (fl, ρ', st')) : (∃ e, m = some (.error e, st') ∧ fl = .xc e ∧ ρ' = ρ) ∨ ∃ a st1, m = some (.ok a, st1) ∧ f a st1 = some (fl, ρ', st') := by
  unfold bindS at h
  split at h
  · cases h
  · cases h
    exact .inl ⟨_, rfl, rfl, rfl⟩
  · exact .inr ⟨_, _, rfl, h⟩
/-- an expression's exception -/
theorem SOut.out {α : Type} {e : Xc} (v : Sv C s q N0 H0 N H σ ρ st) (h : SOut C s q N0 H0 N H (.xc e) ρ st' W D) {Q : α → (Addr → Prop) → Hp → Prop} : Out C s q N H st' (.error e : Except Xc α) (fun c d H' => W c d σ H') Q :=
  fun d N' H' x I r => h d σ N' H' (v.xt x I) (x.fx v.I) r
def sSet (i : Nat) (a : DE C .fz) : DSt C := ⟨fun W => tAsg (a.te W) (gName i), fun ρ st => bindS (a.ev ρ st) ρ fun x st1 => some (.nx, ρ.set i (.d x), st1), fun {s q N0 H0 N H σ ρ ρ' st st' fl} v h W D k => by
  rcases bindS_inv h with ⟨e, h1, rfl, rfl⟩ | ⟨x, st1, h1, h2⟩
  · exact a.ok v.E v.I h1 W _ (SOut.out v k)
  · cases h2
    exact a.ok v.E v.I h1 W _ fun N1 H1 e1 I1 u r1 => k _ _ _ ((v.xt e1 I1).setD r1) (e1.fx v.I)⟩
def sTgt (g : DG C) (a : DE C .fz) : DSt C := ⟨fun W => tAsg (a.te W) g.g, fun ρ st => bindS (a.ev ρ st) ρ fun x st1 => (g.up ρ x).map fun ρ' => (.nx, ρ', st1), fun {s q N0 H0 N H σ ρ ρ' st st' fl} v h W D k => by
  rcases bindS_inv h with ⟨e, h1, rfl, rfl⟩ | ⟨x, st1, h1, h2⟩
  · exact a.ok v.E v.I h1 W _ (SOut.out v k)
  · cases hu : g.up ρ x with
    | none => rw [hu] at h2; cases h2
    | some ρ2 =>
      rw [hu] at h2
      cases h2
      refine a.ok v.E v.I h1 W _ fun N1 H1 e1 I1 u r1 => g.ok (v.E.xt v.I e1) r1 hu fun σ' E' _ => k _ _ _ ⟨E', I1, v.X.trans e1, fun _ => trivial, v.hq⟩ (e1.fx v.I)⟩
/-- a new list is one's own -/
theorem Sv.setOwn (v : Sv C s q N0 H0 N H σ ρ st) {i l : Nat} {xs : List V} {ds : List PyData} (h0 : H0 l = none) (hn : ∀ (j : Nat) (e : En) (u : Option V), j ≠ i → ρ[j]? = some e → σ[j]? = some u → Ow H e u l → False) (w : Lw C.K s N H l xs ds) : Sv C s q N0 H0 N H (σ.set i (some (.ref l))) (ρ.set i (.own ds)) st :=
  ⟨v.E.set ⟨l, xs, rfl, h0, w⟩ fun a z j e u hj h1 h2 w => by
    cases (show some (V.ref l) = some (.ref a) from z)
    exact hn j e u hj h1 h2 w, v.I, v.X, fun _ => trivial, v.hq⟩
def sNew (i : Nat) (a : DE C .nw) : DSt C := ⟨fun W => tAsg (a.te W) (gName i), fun ρ st => bindS (a.ev ρ st) ρ fun x st1 => match x with
  | .list ds => some (.nx, ρ.set i (.own ds), st1)
  | _ => none, fun {s q N0 H0 N H σ ρ ρ' st st' fl} v h W D k => by
  rcases bindS_inv h with ⟨e, h1, rfl, rfl⟩ | ⟨x, st1, h1, h2⟩
  · exact a.ok v.E v.I h1 W _ (SOut.out v k)
  · refine a.ok v.E v.I h1 W _ fun N1 H1 e1 I1 u r1 => ?_
    split at h2
    · cases h2
      obtain ⟨l, xs, ds, rfl, hd, hl, hw⟩ := r1
      cases hd
      refine k _ _ _ ((v.xt e1 I1).setOwn (v.X.free hl) (fun j e u hj h3 h4 z => ?_) hw) (e1.fx v.I)
      have r := v.E.at_ j e u h3 h4
      obtain ⟨⟨us, hu⟩, _⟩ := r.ow (r.ow_back (r.okp e1) (e1.fx v.I).tp z)
      rw [hl] at hu
      cases hu
    · cases h2⟩
def sExpr (a : DE C .pk) : DSt C := ⟨fun W => tDrop (a.te W), fun ρ st => bindS (a.ev ρ st) ρ fun x st1 => some (.nx, ρ, st1), fun {s q N0 H0 N H σ ρ ρ' st st' fl} v h W D k => by
  rcases bindS_inv h with ⟨e, h1, rfl, rfl⟩ | ⟨x, st1, h1, h2⟩
  · exact a.ok v.E v.I h1 W _ (SOut.out v k)
  · cases h2
    exact a.ok v.E v.I h1 W _ fun N1 H1 e1 I1 u r1 => k _ _ _ (v.xt e1 I1) (e1.fx v.I)⟩
def sRet (a : DE C .fz) : DSt C := ⟨fun W => tRet (a.te W), fun ρ st => bindS (a.ev ρ st) ρ fun x st1 => some (.rt x, ρ, st1), fun {s q N0 H0 N H σ ρ ρ' st st' fl} v h W D k => by
  rcases bindS_inv h with ⟨e, h1, rfl, rfl⟩ | ⟨x, st1, h1, h2⟩
  · exact a.ok v.E v.I h1 W _ (SOut.out v k)
  · cases h2
    exact a.ok v.E v.I h1 W _ fun N1 H1 e1 I1 u r1 => k _ _ _ (v.X.trans e1) I1 r1⟩
def sRetN (C : Ct) : DSt C := ⟨fun _ => tRetN, fun ρ st => some (.rt .none, ρ, st), fun v h W D k => by
  cases h
  exact k _ _ _ v.X v.I .non⟩
def sSkip (C : Ct) : DSt C := ⟨fun _ => tNext, fun ρ st => some (.nx, ρ, st), fun v h W D k => by
  cases h
  exact k _ _ _ v .refl⟩
def sBrk (C : Ct) : DSt C := ⟨fun _ => tBreak, fun ρ st => some (.bk, ρ, st), fun v h W D k => by
  cases h
  exact k _ _ _ v .refl⟩
def sCnt (C : Ct) : DSt C := ⟨fun _ => tCont, fun ρ st => some (.ct, ρ, st), fun v h W D k => by
  cases h
  exact k _ _ _ v .refl⟩
def sIf (t : DT C) (a b : DSt C) : DSt C := ⟨fun W => tIfS (t.tt W) (a.ts W) (b.ts W), fun ρ st => bindS (t.ev ρ st) ρ fun x st1 => if x = true then a.ev ρ st1 else b.ev ρ st1, fun {s q N0 H0 N H σ ρ ρ' st st' fl} v h W D k => by
  rcases bindS_inv h with ⟨e, h1, rfl, rfl⟩ | ⟨x, st1, h1, h2⟩
  · exact t.ok v.E v.I h1 W _ (SOut.out v k)
  · refine t.ok v.E v.I h1 W _ fun N1 H1 e1 I1 => ?_
    cases x with
    | true => exact iteT (a.ok (v.xt e1 I1) h2 W _ (k.step (e1.fx v.I)))
    | false => exact iteF (b.ok (v.xt e1 I1) h2 W _ (k.step (e1.fx v.I)))⟩
def seqS (m : Rs') (f : Rho → Ds → Rs') : Rs' :=
  match m with
  | some (.nx, ρ, st) => f ρ st
  | r => r
@[simp] theorem seqS_nx {f : Rho → Ds → Rs'} : seqS (some (.nx, ρ, st)) f = f ρ st := rfl
@[simp] theorem seqS_rt {f : Rho → Ds → Rs'} {x : PyData} : seqS (some (.rt x, ρ, st)) f = some (.rt x, ρ, st) := rfl
@[simp] theorem seqS_bk {f : Rho → Ds → Rs'} : seqS (some (.bk, ρ, st)) f = some (.bk, ρ, st) := rfl
@[simp] theorem seqS_ct {f : Rho → Ds → Rs'} : seqS (some (.ct, ρ, st)) f = some (.ct, ρ, st) := rfl
@[simp] theorem seqS_xc {f : Rho → Ds → Rs'} {x : Xc} : seqS (some (.xc x, ρ, st)) f = some (.xc x, ρ, st) := rfl
def sSeq (a b : DSt C) : DSt C := ⟨fun W => tSeq (a.ts W) (b.ts W), fun ρ st => seqS (a.ev ρ st) b.ev, fun {s q N0 H0 N H σ ρ ρ' st st' fl} v h W D k => by
  cases ha : a.ev ρ st with
  | none => rw [ha] at h; cases h
  | some r =>
    obtain ⟨f1, ρ1, st1⟩ := r
    rw [ha] at h
    refine a.ok v ha W { D with nx := b.ts ⟨W, q.ax⟩ D } ?_
    cases f1 with
    | nx => exact fun σ' N' H' v' x => b.ok v' h W D (k.step x)
    | bk => cases h; exact k
    | ct => cases h; exact k
    | rt x => cases h; exact k
    | xc x => cases h; exact k⟩
/-- i += a -/
def sAug (g : Int → Int → Int) (i : Nat) (a : DE C .pk) : DSt C := ⟨fun W => tAug i (a.te W) (ipI g), fun ρ st => match ρ[i]? with
  | some (.d (.int n)) => bindS (a.ev ρ st) ρ fun x st1 => match x with
    | .int m => some (.nx, ρ.set i (.d (.int (g n m))), st1)
    | _ => none
  | _ => none, fun {s q N0 H0 N H σ ρ ρ' st st' fl} v h W D k => by
  split at h
  · rename_i n hi
    obtain ⟨o, ho, u, rfl, hu⟩ := v.E.get hi
    refine ⟨u, ho, ?_⟩
    cases hu
    rcases bindS_inv h with ⟨e, h1, rfl, rfl⟩ | ⟨x, st1, h1, h2⟩
    · exact a.ok v.E v.I h1 W _ (SOut.out v k)
    · refine a.ok v.E v.I h1 W _ fun N1 H1 e1 I1 w r1 => ?_
      split at h2
      · cases h2
        cases pk_i r1
        exact ⟨n, _, rfl, rfl, k _ _ _ ((v.xt e1 I1).setD (.int _)) (e1.fx v.I)⟩
      · cases h2
  · cases h⟩
/-- slot i's own list is changed -/
theorem Sv.chg (v : Sv C s q N0 H0 N H σ ρ st) {i : Nat} {n n' : En} {o : Option V} {l : Addr} {ys : List V} (hi : ρ[i]? = some n) (ho : σ[i]? = some o) (hw : Ow H n o l) (h : EnR C s q H0 N (upd H l (.lst ys)) n' o) (hs : ∀ a, Ow (upd H l (.lst ys)) n' o a → Ow H n o a) :
    Sv C s q N0 H0 N (upd H l (.lst ys)) σ (ρ.set i n') st ∧ Fx N H N (upd H l (.lst ys)) := by
  obtain ⟨⟨us, hl⟩, hn, ls, h0⟩ := (v.E.at_ i n o hi ho).ow hw
  have X : Xt s N0 H0 N (upd H l (.lst ys)) := by
    exact v.X.updO h0
  refine ⟨⟨v.E.chg hi ho hw h hs, ⟨fun a n => ?_, v.I.ns, ?_, v.hq.keep X.kp0, v.I.sc, v.I.nS, v.I.sS, fun m a h => v.I.fS m a (upd_none h), v.I.pn, tabs_upd v.I.tb hl rfl⟩, X, fun _ => trivial, v.hq⟩, Fx.mut hl hn⟩
  · rw [upd_ne (by rintro rfl; exact hn n)]
    exact v.I.na a n
  · exact v.I.hs.updO hl hn ls
theorem Sv.mut (v : Sv C s q N0 H0 N H σ ρ st) {i : Nat} {l : Addr} {us ys : List V} {ds es : List PyData} (hi : ρ[i]? = some (.own ds)) (ho : σ[i]? = some (some (.ref l))) (h0 : H0 l = none) (w : Lw C.K s N H l us ds) (r : RpAll C.K N H ys es) :
    Sv C s q N0 H0 N (upd H l (.lst ys)) σ (ρ.set i (.own es)) st ∧ Fx N H N (upd H l (.lst ys)) :=
  v.chg hi ho rfl ⟨l, ys, rfl, h0, w.nn, w.ls, upd_same, rps_mut w.hl w.nn r⟩ fun a z => z
/-- the list in slot i -/
theorem Ev.own {ds : List PyData} (E : Ev C s q H0 N H σ ρ) {i : Nat} (hi : ρ[i]? = some (.own ds)) : ∃ l xs, σ[i]? = some (some (.ref l)) ∧ H0 l = none ∧ Lw C.K s N H l xs ds := by
  obtain ⟨o, ho, l, xs, rfl, h0, w⟩ := E.get hi
  exact ⟨l, xs, ho, h0, w⟩
theorem tyV_lst {K : PySem.W.Frag} {l : Addr} {xs : List V} (h : H l = some (.lst xs)) : tyV K "list" (.ref l) H := .inl ⟨rfl, xs, SqL.of h⟩
def sApp (i : Nat) (a : DE C .fz) : DSt C := ⟨fun W => tDrop (tBM C.K "list" rAppend (tVar i) (tCons (a.te W) tNil)), fun ρ st => match ρ[i]? with
  | some (.own ds) => bindS (a.ev ρ st) ρ fun x st1 => if ds.length < 100000 then some (.nx, ρ.set i (.own (ds ++ [x])), st1) else none
  | _ => none, fun {s q N0 H0 N H σ ρ ρ' st st' fl} v h W D k => by
  split at h
  · rename_i ds hi
    obtain ⟨l, xs, ho, h0, w⟩ := v.E.own hi
    refine ⟨_, ho, tyV_lst w.hl, ?_⟩
    rcases bindS_inv h with ⟨e, h1, rfl, rfl⟩ | ⟨x, st1, h1, h2⟩
    · exact a.ok v.E v.I h1 W _ (SOut.out v k)
    · refine a.ok v.E v.I h1 W _ fun N1 H1 e1 I1 u r1 => ?_
      split at h2
      · rename_i hz
        cases h2
        have w1 := w.xt v.I e1
        obtain ⟨m1, m2⟩ := (v.xt e1 I1).mut hi ho h0 w1 (w1.r.app (.cons r1 .nil))
        exact ⟨l, xs, u, rfl, rfl, w1.hl, by rw [w1.r.length]; exact sz_lt hz, k _ _ _ m1 ((e1.fx v.I).trans m2)⟩
      · cases h2
  · cases h⟩
def sExt (i : Nat) (a : DE C .pk) : DSt C := ⟨fun W => tDrop (tBM C.K "list" rExtend (tVar i) (tCons (a.te W) tNil)), fun ρ st => match ρ[i]? with
  | some (.own ds) => bindS (a.ev ρ st) ρ fun x st1 => match x with
    | .list es => if ds.length + es.length ≤ 100000 then some (.nx, ρ.set i (.own (ds ++ es)), st1) else none
    | _ => none
  | _ => none, fun {s q N0 H0 N H σ ρ ρ' st st' fl} v h W D k => by
  split at h
  · rename_i ds hi
    obtain ⟨l, xs, ho, h0, w⟩ := v.E.own hi
    refine ⟨_, ho, tyV_lst w.hl, ?_⟩
    rcases bindS_inv h with ⟨e, h1, rfl, rfl⟩ | ⟨x, st1, h1, h2⟩
    · exact a.ok v.E v.I h1 W _ (SOut.out v k)
    · refine a.ok v.E v.I h1 W _ fun N1 H1 e1 I1 u r1 => ?_
      split at h2
      · split at h2
        · rename_i hz
          cases h2
          have w1 := w.xt v.I e1
          obtain ⟨l2, ys, rfl, _, h3, h4⟩ := pk_l r1 I1.ns
          obtain ⟨m1, m2⟩ := (v.xt e1 I1).mut hi ho h0 w1 (w1.r.app h4)
          exact ⟨l, l2, xs, ys, rfl, rfl, w1.hl, h3, by rw [w1.r.length, h4.length]; exact sz_of hz, k _ _ _ m1 ((e1.fx v.I).trans m2)⟩
        · cases h2
      · cases h2
  · cases h⟩
theorem rps_dropLast {K : PySem.W.Frag} : ∀ {ds : List PyData} {vs : List V}, RpAll K N H vs ds → RpAll K N H vs.dropLast ds.dropLast
  | _, _, .nil => .nil
  | _, _, .cons h .nil => .nil
  | _, _, .cons h (.cons h2 r) => .cons h (rps_dropLast (.cons h2 r))
def sPop (j i : Nat) : DSt C := ⟨fun _ => tAsg (tBM0 C.K "list" rPop (tVar i)) (gName j), fun ρ st => match ρ[i]? with
  | some (.own ds) => match ds[ds.length - 1]? with
    | some x => some (.nx, (ρ.set i (.own ds.dropLast)).set j (.d x), st)
    | none => none
  | _ => none, fun {s q N0 H0 N H σ ρ ρ' st st' fl} v h W D k => by
  split at h
  · rename_i ds hi
    split at h
    · rename_i x hx
      cases h
      obtain ⟨l, xs, ho, h0, w⟩ := v.E.own hi
      obtain ⟨u, hu, hr⟩ := w.r.got hx
      obtain ⟨m1, m2⟩ := v.mut hi ho h0 w (rps_dropLast w.r)
      exact ⟨_, ho, tyV_lst w.hl, l, xs, u, rfl, rfl, w.hl, by rw [w.r.length]; exact hu, k _ _ _ (m1.setD (rp_mut w.hl w.nn hr)) m2⟩
    · cases h
  · cases h⟩
def sPopE (C : Ct) (i : Nat) : DSt C := ⟨fun _ => tDrop (tBM0 C.K "list" rPop (tVar i)), fun ρ st => match ρ[i]? with
  | some (.own ds) => match ds[ds.length - 1]? with
    | some x => some (.nx, ρ.set i (.own ds.dropLast), st)
    | none => none
  | _ => none, fun {s q N0 H0 N H σ ρ ρ' st st' fl} v h W D k => by
  split at h
  · rename_i ds hi
    split at h
    · rename_i x hx
      cases h
      obtain ⟨l, xs, ho, h0, w⟩ := v.E.own hi
      obtain ⟨u, hu, hr⟩ := w.r.got hx
      obtain ⟨m1, m2⟩ := v.mut hi ho h0 w (rps_dropLast w.r)
      exact ⟨_, ho, tyV_lst w.hl, l, xs, u, rfl, rfl, w.hl, by rw [w.r.length]; exact hu, k _ _ _ m1 m2⟩
    · cases h
  · cases h⟩
/-- x[i] = a -/
def sSetI (i : Nat) (ix : DE C .pk) (a : DE C .fz) : DSt C := ⟨fun W => tAsg (a.te W) (gSub (tVar i) (ix.te W) rSetL), fun ρ st => bindS (a.ev ρ st) ρ fun x st1 => match ρ[i]? with
  | some (.own ds) => bindS (ix.ev ρ st1) ρ fun y st2 => match y with
    | .int n => match ixN ds.length n with
      | some j => some (.nx, ρ.set i (.own (ds.set j x)), st2)
      | none => none
    | _ => none
  | _ => none, fun {s q N0 H0 N H σ ρ ρ' st st' fl} v h W D k => by
  rcases bindS_inv h with ⟨e, h1, rfl, rfl⟩ | ⟨x, st1, h1, h2⟩
  · exact a.ok v.E v.I h1 W _ (SOut.out v k)
  · refine a.ok v.E v.I h1 W _ fun N1 H1 e1 I1 u r1 => ?_
    split at h2
    · rename_i ds hi
      obtain ⟨l, xs, ho, h0, w⟩ := v.E.own hi
      have v1 := v.xt e1 I1
      refine ⟨_, ho, ?_⟩
      rcases bindS_inv h2 with ⟨e, h3, rfl, rfl⟩ | ⟨y, st2, h3, h4⟩
      · exact ix.ok v1.E v1.I h3 W _ (SOut.out v1 (k.step (e1.fx v.I)))
      · refine ix.ok v1.E v1.I h3 W _ fun N2 H2 e2 I2 u2 r2 => ?_
        split at h4
        · rename_i n
          split at h4
          · rename_i j hj
            cases h4
            cases pk_i r2
            have w1 := (w.xt v.I e1).xt I1 e2
            obtain ⟨m1, m2⟩ := (v1.xt e2 I2).mut hi ho h0 w1 (w1.r.set j (I1.rp e2 r1))
            exact ⟨l, xs, n, j, rfl, rfl, w1.hl, by rw [w1.r.length]; exact hj, k _ _ _ m1 (((e1.trans e2).fx v.I).trans m2)⟩
          · cases h4
        · cases h4
    · cases h2⟩
/-- slot i's list is frozen ahead of a statement -/
def frzR (ρ : Rho) (i : Nat) : Rho := match ρ[i]? with
  | some (.own ds) => ρ.set i (.d (.list ds))
  | _ => ρ
theorem Sv.frz (v : Sv C s q N0 H0 N H σ ρ st) (i : Nat) : ∃ N1, Sv C s q N0 H0 N1 H σ (frzR ρ i) st ∧ Fx N H N1 H := by
  unfold frzR
  split
  · rename_i ds hi
    obtain ⟨l, xs, ho, h0, w⟩ := v.E.own hi
    have hσ : σ.set i (some (.ref l)) = σ := set_same ho
    have E1 : Ev C s q H0 (fzN N l) H σ (ρ.set i (.d (.list ds))) := by
      have no : ∀ (j : Nat) (e : En) (u : Option V), j ≠ i → ρ[j]? = some e → σ[j]? = some u → ¬ Ow H e u l := fun j e u hj h1 h2 z => v.E.dis j i e _ u _ l hj h1 hi h2 ho z rfl
      have self : ∀ {y : En}, (ρ.set i (.d (.list ds)))[i]? = some y → y = .d (.list ds) := fun {y} h => by
        rw [List.getElem?_set_self (List.getElem?_eq_some_iff.mp hi).1] at h
        cases h
        rfl
      refine ⟨by rw [List.length_set]; exact v.E.len, fun j e u h1 h2 => ?_, fun j1 j2 e1 e2 u1 u2 a hj h1 h2 h3 h4 w1 w2 => ?_⟩
      · by_cases hj : i = j
        · subst hj
          cases self h1
          rw [ho] at h2
          cases h2
          exact ⟨_, rfl, .lst (.inr rfl) w.hl (rps_fz w.r)⟩
        · rw [List.getElem?_set_ne hj] at h1
          exact (v.E.at_ j e u h1 h2).fz w.hl (no j e u (fun z => hj z.symm) h1 h2)
      · by_cases k1 : i = j1
        · subst k1
          cases self h1
          exact w1.elim
        · by_cases k2 : i = j2
          · subst k2
            cases self h2
            exact w2.elim
          · rw [List.getElem?_set_ne k1] at h1
            rw [List.getElem?_set_ne k2] at h2
            exact v.E.dis j1 j2 e1 e2 u1 u2 a hj h1 h2 h3 h4 w1 w2
    exact ⟨fzN N l, ⟨E1, v.I.frz w.hl w.ls, ⟨v.X.kp0, v.X.kq0, v.X.ks, fun a h => .inl (v.X.nn a h), fun a h => Or.elim h (v.X.nw a) (fun z => by subst z; exact .inr (.inl h0))⟩, fun _ => trivial, v.hq⟩, Fx.frz⟩
  · exact ⟨N, v, .refl⟩
def sFrz (i : Nat) (a : DSt C) : DSt C := ⟨a.ts, fun ρ st => a.ev (frzR ρ i) st, fun v h W D k => by
  obtain ⟨N1, v1, x1⟩ := v.frz i
  exact a.ok v1 h W D (k.step x1)⟩
end
end De

namespace De
open PySem L2 Dx
section
variable {C : Ct} {k : Kd} {s : Sx} {q : Sq} {N0 N N1 N' : Addr → Prop} {H0 H H1 H' : Hp} {σ : L2.St} {ρ ρ' : Rho} {st st' st1 : Ds} {W : WX} {D : Ends} {fl : Fl}
/-- one turn's end -/
def loopK (m : Rs') (f : Rho → Ds → Rs') : Rs' :=
  match m with
  | none => none
  | some (.nx, ρ, st) => f ρ st
  | some (.ct, ρ, st) => f ρ st
  | some (.bk, ρ, st) => some (.nx, ρ, st)
  | some (.rt x, ρ, st) => some (.rt x, ρ, st)
  | some (.xc e, ρ, st) => some (.xc e, ρ, st)
@[simp] theorem loopK_nx {f : Rho → Ds → Rs'} : loopK (some (.nx, ρ, st)) f = f ρ st := rfl
@[simp] theorem loopK_ct {f : Rho → Ds → Rs'} : loopK (some (.ct, ρ, st)) f = f ρ st := rfl
@[simp] theorem loopK_bk {f : Rho → Ds → Rs'} : loopK (some (.bk, ρ, st)) f = some (.nx, ρ, st) := rfl
@[simp] theorem loopK_rt {f : Rho → Ds → Rs'} {x : PyData} : loopK (some (.rt x, ρ, st)) f = some (.rt x, ρ, st) := rfl
@[simp] theorem loopK_xc {f : Rho → Ds → Rs'} {x : Xc} : loopK (some (.xc x, ρ, st)) f = some (.xc x, ρ, st) := rfl
theorem loopK_inv {m : Rs'} {f : Rho → Ds → Rs'} (h : loopK m f = some (fl, ρ', st')) : ∃ f1 ρ1 st1, m = some (f1, ρ1, st1) ∧ (((f1 = .nx ∨ f1 = .ct) ∧ f ρ1 st1 = some (fl, ρ', st')) ∨ (f1 = .bk ∧ fl = .nx ∧ ρ' = ρ1 ∧ st' = st1) ∨ (∃ x, f1 = .rt x ∧ fl = .rt x ∧ ρ' = ρ1 ∧ st' = st1) ∨ ∃ x, f1 = .xc x ∧ fl = .xc x ∧ ρ' = ρ1 ∧ st' = st1) := by
  unfold loopK at h
  split at h
  · cases h
  · exact ⟨_, _, _, rfl, .inl ⟨.inl rfl, h⟩⟩
  · exact ⟨_, _, _, rfl, .inl ⟨.inr rfl, h⟩⟩
  · cases h; exact ⟨_, _, _, rfl, .inr (.inl ⟨rfl, rfl, rfl, rfl⟩)⟩
  · cases h; exact ⟨_, _, _, rfl, .inr (.inr (.inl ⟨_, rfl, rfl, rfl, rfl⟩))⟩
  · cases h; exact ⟨_, _, _, rfl, .inr (.inr (.inr ⟨_, rfl, rfl, rfl, rfl⟩))⟩
/-- the body of a loop: what it must give -/
theorem SOut.body {Nx : L2.St → Hp → Prop} {f1 : Fl} {ρ1 : Rho} {f : Rho → Ds → Rs'} (h : ((f1 = .nx ∨ f1 = .ct) ∧ f ρ1 st1 = some (fl, ρ', st')) ∨ (f1 = .bk ∧ fl = .nx ∧ ρ' = ρ1 ∧ st' = st1) ∨ (∃ x, f1 = .rt x ∧ fl = .rt x ∧ ρ' = ρ1 ∧ st' = st1) ∨ ∃ x, f1 = .xc x ∧ fl = .xc x ∧ ρ' = ρ1 ∧ st' = st1)
    (hn : f ρ1 st1 = some (fl, ρ', st') → ∀ σ' N' H', Sv C s q N0 H0 N' H' σ' ρ1 st1 → Fx N H N' H' → Nx σ' H') (k : SOut C s q N0 H0 N H fl ρ' st' W D) : SOut C s q N0 H0 N H f1 ρ1 st1 W { D with nx := Nx, ct := Nx, bk := D.nx } := by
  rcases h with ⟨rfl | rfl, h⟩ | ⟨rfl, rfl, rfl, rfl⟩ | ⟨x, rfl, rfl, rfl, rfl⟩ | ⟨x, rfl, rfl, rfl, rfl⟩
  · exact hn h
  · exact hn h
  · exact k
  · exact k
  · exact k
def forEv (g : DG C) (b : DSt C) : List PyData → Rho → Ds → Rs'
  | [], ρ, st => some (.nx, ρ, st)
  | x :: xs, ρ, st => match g.up ρ x with
    | none => none
    | some ρ' => loopK (b.ev ρ' st) (forEv g b xs)
theorem forEv_cons {g : DG C} {b : DSt C} {x : PyData} {xs : List PyData} (h : forEv g b (x :: xs) ρ st = some (fl, ρ', st')) : ∃ ρ1, g.up ρ x = some ρ1 ∧ loopK (b.ev ρ1 st) (forEv g b xs) = some (fl, ρ', st') := by
  unfold forEv at h
  split at h
  · cases h
  · exact ⟨_, by assumption, h⟩
def sFor (w : DI C .fz) (g : DG C) (b : DSt C) : DSt C := ⟨fun W => tFor (w.ti W) g.g (b.ts W), fun ρ st => bindS (w.ev ρ st) ρ fun ds st1 => forEv g b ds ρ st1, fun {s q N0 H0 N H σ ρ ρ' st st' fl} v h W D k => by
  rcases bindS_inv h with ⟨e, h1, rfl, rfl⟩ | ⟨ds, st1, h1, h2⟩
  · exact w.ok v.E v.I h1 W _ (SOut.out v k)
  · refine w.ok v.E v.I h1 W _ fun N1 H1 e1 I1 J wk => ?_
    obtain ⟨xs, G, hw, hx, hG⟩ := wk
    have hlen := hx.length
    let Pv : Nat → L2.St → Hp → Prop := fun i σ' H' => ∃ (N' : Addr → Prop) (ρi : Rho) (sti : Ds), Sv C s q N0 H0 N' H' σ' ρi sti ∧ Fx N1 H1 N' H' ∧ forEv g b (ds.drop i) ρi sti = some (fl, ρ', st')
    refine for_it hw Pv ⟨N1, ρ, st1, v.xt e1 I1, .refl, h2⟩ (fun i σ' H' _ ⟨N', _, _, _, x1, _⟩ => hG N' H' x1) ?_ ?_
    · rintro i u σ1 H2 H3 hi ⟨N', ρi, sti, vi, x1, hl⟩ ⟨rfl, hv⟩
      obtain ⟨x, hx1, hx2⟩ := hx.get hv
      have hdrop : ds.drop i = x :: ds.drop (i + 1) := by
        have hlt : i < ds.length := by rw [← hlen]; exact hi
        rw [List.drop_eq_getElem_cons hlt]
        rw [List.getElem?_eq_getElem hlt] at hx1
        cases hx1
        rfl
      rw [hdrop] at hl
      obtain ⟨ρ1, hup, hc⟩ := forEv_cons hl
      obtain ⟨f1, ρ2, st2, hb, hcs⟩ := loopK_inv hc
      refine g.ok vi.E (x1.rp hx2) hup fun σ' E' _ => ?_
      refine b.ok ⟨E', vi.I, vi.X, fun _ => trivial, vi.hq⟩ hb W _ (SOut.body hcs (fun hf σ2 N2 H4 v2 x2 => ⟨N2, ρ2, st2, v2, x1.trans x2, hf⟩) (k.step ((e1.fx v.I).trans x1)))
    · rintro σ1 H2 ⟨N', ρi, sti, vi, x1, hl⟩
      rw [hlen, List.drop_length] at hl
      cases hl
      exact k _ _ _ vi ((e1.fx v.I).trans x1)⟩
/-! while -/
def whileN (t : DT C) (b : DSt C) : Nat → Rho → Ds → Rs'
  | 0, _, _ => none
  | n + 1, ρ, st => bindS (t.ev ρ st) ρ fun x st1 => if x = true then loopK (b.ev ρ st1) (whileN t b n) else some (.nx, ρ, st1)
theorem whileN_mono {t : DT C} {b : DSt C} : ∀ {n m : Nat} {ρ : Rho} {st : Ds} {r : Fl × Rho × Ds}, n ≤ m → whileN t b n ρ st = some r → whileN t b m ρ st = some r
  | 0, _, _, _, _, _, h => by cases h
  | n + 1, 0, _, _, _, hm, _ => by omega
  | n + 1, m + 1, ρ, st, (f1, ρ1, st1), hm, h => by
    unfold whileN at h ⊢
    rcases bindS_inv h with ⟨e, h1, rfl, rfl⟩ | ⟨x, st2, h1, h2⟩
    · rw [h1]; rfl
    · rw [h1]
      show (if x = true then _ else _) = _
      cases x with
      | true =>
        obtain ⟨f2, ρ2, st3, hb, hcs⟩ := loopK_inv (show loopK (b.ev ρ st2) (whileN t b n) = _ from h2)
        show loopK (b.ev ρ st2) (whileN t b m) = _
        rw [hb]
        rcases hcs with ⟨rfl | rfl, h3⟩ | ⟨rfl, rfl, rfl, rfl⟩ | ⟨x, rfl, rfl, rfl, rfl⟩ | ⟨x, rfl, rfl, rfl, rfl⟩
        · exact whileN_mono (Nat.le_of_succ_le_succ hm) h3
        · exact whileN_mono (Nat.le_of_succ_le_succ hm) h3
        · rfl
        · rfl
        · rfl
      | false => exact h2
open Classical in
noncomputable def whileL (t : DT C) (b : DSt C) (ρ : Rho) (st : Ds) : Rs' := if h : ∃ n r, whileN t b n ρ st = some r then some (Classical.choose (Classical.choose_spec h)) else none
theorem whileL_of {t : DT C} {b : DSt C} {n : Nat} {r : Fl × Rho × Ds} (h : whileN t b n ρ st = some r) : whileL t b ρ st = some r := by
  unfold whileL
  have hx : ∃ n r, whileN t b n ρ st = some r := ⟨n, r, h⟩
  rw [dif_pos hx]
  have h2 := Classical.choose_spec (Classical.choose_spec hx)
  have h3 := whileN_mono (Nat.le_max_left n (Classical.choose hx)) h
  have h4 := whileN_mono (Nat.le_max_right n (Classical.choose hx)) h2
  rw [h3] at h4
  exact h4.symm
theorem whileL_inv {t : DT C} {b : DSt C} {r : Fl × Rho × Ds} (h : whileL t b ρ st = some r) : ∃ n, whileN t b n ρ st = some r := by
  unfold whileL at h
  split at h
  · rename_i hx
    cases h
    exact ⟨_, Classical.choose_spec (Classical.choose_spec hx)⟩
  · cases h
theorem whileL_eq {t : DT C} {b : DSt C} {r : Fl × Rho × Ds} (h : bindS (t.ev ρ st) ρ (fun x st1 => if x = true then loopK (b.ev ρ st1) (whileL t b) else some (.nx, ρ, st1)) = some r) : whileL t b ρ st = some r := by
  obtain ⟨f1, ρ1, st1⟩ := r
  rcases bindS_inv h with ⟨e, h1, rfl, rfl⟩ | ⟨x, st2, h1, h2⟩
  · exact whileL_of (n := 1) (by unfold whileN; rw [h1]; rfl)
  · cases x with
    | true =>
      obtain ⟨f2, ρ2, st3, hb, hcs⟩ := loopK_inv (show loopK (b.ev ρ st2) (whileL t b) = _ from h2)
      rcases hcs with ⟨hf, h3⟩ | hcs
      · obtain ⟨n, hn⟩ := whileL_inv h3
        refine whileL_of (n := n + 1) ?_
        unfold whileN
        rw [h1]
        show loopK (b.ev ρ st2) (whileN t b n) = _
        rw [hb]
        rcases hf with rfl | rfl
        · exact hn
        · exact hn
      · refine whileL_of (n := 1) ?_
        unfold whileN
        rw [h1]
        show loopK (b.ev ρ st2) (whileN t b 0) = _
        rw [hb]
        rcases hcs with ⟨rfl, rfl, rfl, rfl⟩ | ⟨x, rfl, rfl, rfl, rfl⟩ | ⟨x, rfl, rfl, rfl, rfl⟩
        · rfl
        · rfl
        · rfl
    | false => exact whileL_of (n := 1) (by unfold whileN; rw [h1]; exact h2)
noncomputable def sWhile (t : DT C) (b : DSt C) : DSt C := ⟨fun W => tWhile (t.tt W) (b.ts W), whileL t b, fun {s q N0 H0 N H σ ρ ρ' st st' fl} v h W D k => by
  obtain ⟨n, hn⟩ := whileL_inv h
  refine ⟨fun m σ' H' => ∃ (N' : Addr → Prop) (ρi : Rho) (sti : Ds), Sv C s q N0 H0 N' H' σ' ρi sti ∧ Fx N H N' H' ∧ whileN t b m ρi sti = some (fl, ρ', st'), ⟨n, N, ρ, st, v, .refl, hn⟩, ?_⟩
  rintro m σ1 H1 ⟨N1, ρi, sti, vi, x1, hi⟩
  cases m with
  | zero => cases hi
  | succ m =>
    unfold whileN at hi
    rcases bindS_inv hi with ⟨e, h1, rfl, rfl⟩ | ⟨x, st2, h1, h2⟩
    · exact t.ok vi.E vi.I h1 W _ (SOut.out vi (k.step x1))
    · refine t.ok vi.E vi.I h1 W _ fun N2 H2 e2 I2 => ?_
      cases x with
      | true =>
        obtain ⟨f1, ρ2, st3, hb, hcs⟩ := loopK_inv (show loopK (b.ev ρi st2) (whileN t b m) = _ from h2)
        refine iteT ⟨fun σ' H' => ∃ (N' : Addr → Prop) (ρi : Rho) (sti : Ds), Sv C s q N0 H0 N' H' σ' ρi sti ∧ Fx N H N' H' ∧ whileN t b m ρi sti = some (fl, ρ', st'), fun σ' H' h => ⟨m, Nat.lt_succ_self m, h⟩, ?_⟩
        exact b.ok (vi.xt e2 I2) hb W _ (SOut.body hcs (fun hf σ3 N3 H3 v3 x3 => ⟨N3, ρ2, st3, v3, (x1.trans (e2.fx vi.I)).trans x3, hf⟩) (k.step (x1.trans (e2.fx vi.I))))
      | false =>
        cases h2
        exact iteF (k _ _ _ (vi.xt e2 I2) (x1.trans (e2.fx vi.I)))⟩
/-! exceptions -/
def sRaise (x : Str) (a : DE C .fz) : DSt C := ⟨fun W => fun _ σ H => ExQ.tMkX (C.ca x) (C.fs x) (a.te W) σ H fun cls d H' => W.W cls d σ H', fun ρ st => bindS (a.ev ρ st) ρ fun p st1 => some (.xc ⟨x, p⟩, ρ, st1), fun {s q N0 H0 N H σ ρ ρ' st st' fl} v h W D k => by
  rcases bindS_inv h with ⟨e, h1, rfl, rfl⟩ | ⟨p, st1, h1, h2⟩
  · exact a.ok v.E v.I h1 W _ (SOut.out v k)
  · cases h2
    refine a.ok v.E v.I h1 W _ fun N1 H1 e1 I1 u r1 d hd => ?_
    exact k d _ _ _ (v.xt (e1.trans (Xt.new hd)) (I1.new hd)) ((e1.trans (Xt.new hd)).fx v.I) ⟨u, I1.rp (Xt.new hd) r1, upd_same⟩⟩
theorem Iv.ax {ax : Ax} (I : Iv C s q N H st) : Iv C s { q with ax := ax } N H st := ⟨I.na, I.ns, I.hs, I.hq, I.sc, I.nS, I.sS, I.fS, I.pn, I.tb⟩
theorem Iv.unax {ax : Ax} (I : Iv C s { q with ax := ax } N H st) : Iv C s q N H st := ⟨I.na, I.ns, I.hs, I.hq, I.sc, I.nS, I.sS, I.fS, I.pn, I.tb⟩
def noXc : Rho → Bool
  | [] => true
  | .xc _ :: _ => false
  | .fn _ _ :: _ => false
  | _ :: r => noXc r
theorem noXc_at : ∀ {ρ : Rho} {i : Nat} {e : Xc}, noXc ρ = true → ρ[i]? ≠ some (.xc e)
  | [], i, e, _ => by simp
  | .no :: r, 0, e, _ => by simp
  | .d _ :: r, 0, e, _ => by simp
  | .own _ :: r, 0, e, _ => by simp
  | .own2 _ :: r, 0, e, _ => by simp
  | .st :: r, 0, e, _ => by simp
  | .scr :: r, 0, e, _ => by simp
  | .xl _ :: r, 0, e, _ => by simp
  | .own3 _ :: r, 0, e, _ => by simp
  | .vl _ :: r, 0, e, _ => by simp
  | .dk _ :: r, 0, e, _ => by simp
  | .ob :: r, 0, e, _ => by simp
  | .xc _ :: r, _, e, h => by cases h
  | .fn _ _ :: r, _, e, h => by cases h
  | .no :: r, i + 1, e, h => noXc_at (ρ := r) (i := i) h
  | .d _ :: r, i + 1, e, h => noXc_at (ρ := r) (i := i) h
  | .own _ :: r, i + 1, e, h => noXc_at (ρ := r) (i := i) h
  | .own2 _ :: r, i + 1, e, h => noXc_at (ρ := r) (i := i) h
  | .st :: r, i + 1, e, h => noXc_at (ρ := r) (i := i) h
  | .scr :: r, i + 1, e, h => noXc_at (ρ := r) (i := i) h
  | .xl _ :: r, i + 1, e, h => noXc_at (ρ := r) (i := i) h
  | .own3 _ :: r, i + 1, e, h => noXc_at (ρ := r) (i := i) h
  | .vl _ :: r, i + 1, e, h => noXc_at (ρ := r) (i := i) h
  | .dk _ :: r, i + 1, e, h => noXc_at (ρ := r) (i := i) h
  | .ob :: r, i + 1, e, h => noXc_at (ρ := r) (i := i) h
theorem noFn_at : ∀ {ρ : Rho} {i j : Nat} {c : Option (List PyData)}, noXc ρ = true → ρ[i]? ≠ some (.fn j c)
  | [], i, _, _, _ => by simp
  | .no :: r, 0, _, _, _ => by simp
  | .d _ :: r, 0, _, _, _ => by simp
  | .own _ :: r, 0, _, _, _ => by simp
  | .own2 _ :: r, 0, _, _, _ => by simp
  | .st :: r, 0, _, _, _ => by simp
  | .scr :: r, 0, _, _, _ => by simp
  | .xl _ :: r, 0, _, _, _ => by simp
  | .own3 _ :: r, 0, _, _, _ => by simp
  | .vl _ :: r, 0, _, _, _ => by simp
  | .dk _ :: r, 0, _, _, _ => by simp
  | .ob :: r, 0, _, _, _ => by simp
  | .xc _ :: r, _, _, _, h => by cases h
  | .fn _ _ :: r, _, _, _, h => by cases h
  | .no :: r, i + 1, _, _, h => noFn_at (ρ := r) (i := i) h
  | .d _ :: r, i + 1, _, _, h => noFn_at (ρ := r) (i := i) h
  | .own _ :: r, i + 1, _, _, h => noFn_at (ρ := r) (i := i) h
  | .own2 _ :: r, i + 1, _, _, h => noFn_at (ρ := r) (i := i) h
  | .st :: r, i + 1, _, _, h => noFn_at (ρ := r) (i := i) h
  | .scr :: r, i + 1, _, _, h => noFn_at (ρ := r) (i := i) h
  | .xl _ :: r, i + 1, _, _, h => noFn_at (ρ := r) (i := i) h
  | .own3 _ :: r, i + 1, _, _, h => noFn_at (ρ := r) (i := i) h
  | .vl _ :: r, i + 1, _, _, h => noFn_at (ρ := r) (i := i) h
  | .dk _ :: r, i + 1, _, _, h => noFn_at (ρ := r) (i := i) h
  | .ob :: r, i + 1, _, _, h => noFn_at (ρ := r) (i := i) h
theorem Ev.ax {ax : Ax} (h : noXc ρ = true) (E : Ev C s q H0 N H σ ρ) : Ev C s { q with ax := ax } H0 N H σ ρ := by
  refine ⟨E.len, fun i e o h1 h2 => ?_, E.dis⟩
  have h3 := E.at_ i e o h1 h2
  cases e with
  | xc e => exact absurd h1 (noXc_at h)
  | fn j c => exact absurd h1 (noFn_at h)
  | _ => exact h3
theorem Ev.unax {ax : Ax} (h : noXc ρ = true) (E : Ev C s { q with ax := ax } H0 N H σ ρ) : Ev C s q H0 N H σ ρ := by
  refine ⟨E.len, fun i e o h1 h2 => ?_, E.dis⟩
  have h3 := E.at_ i e o h1 h2
  cases e with
  | xc e => exact absurd h1 (noXc_at h)
  | fn j c => exact absurd h1 (noFn_at h)
  | _ => exact h3
theorem Sv.ax {ax : Ax} (h : noXc ρ = true) (v : Sv C s q N0 H0 N H σ ρ st) : Sv C s { q with ax := ax } N0 H0 N H σ ρ st := ⟨v.E.ax h, v.I.ax, v.X, fun _ => trivial, v.hq⟩
theorem Sv.unax {ax : Ax} (h : noXc ρ = true) (v : Sv C s { q with ax := ax } N0 H0 N H σ ρ st) : Sv C s q N0 H0 N H σ ρ st := ⟨v.E.unax h, v.I.unax, v.X, fun _ => trivial, v.hq⟩
/-- a field of the caught exception: f x p -/
def dXf (x f : Str) (i : Nat) (pv : PyData → PyData) (hf : ∀ (N : Addr → Prop) (H : Hp) (u : V) (p : PyData), Rp C.K N H u p → ∃ w, (C.fs x u).lookup f = some w ∧ Rp C.K N H w (pv p)) : DE C .fz :=
  ⟨fun W => tXf W.ax.a W.ax.cls W.ax.d (C.ca x) f (tVar i), fun ρ st => match ρ[i]? with
  | some (.xc e) => if e.x = x then some (.ok (pv e.p), st) else none
  | _ => none, fun {s q H0 N σ H ρ st st' r} E I h W Q k => by
  split at h
  · rename_i e hi
    split at h
    · rename_i hx
      cases h
      obtain ⟨o, ho, rfl, h2, dd, h3, p, h4, h5⟩ := E.get hi
      rw [hx] at h2 h5
      obtain ⟨w, hw1, hw2⟩ := hf N H p e.p h4
      exact ⟨_, ho, rfl, h2, dd, _, w, h3, h5, hw1, k _ _ .refl I _ hw2⟩
    · cases h
  · cases h⟩
/-- try: body except x as slot i: suite -/
def sTry (x : Str) (i : Nat) (sb : Str → Option Bool) (hsb : ∀ y b, sb y = some b → PySem.W.exmOne C.K (.ref (C.ca y)) (.ref (C.ca x)) = some b) (body suite : DSt C) : DSt C :=
  ⟨fun W => fun D σ H => body.ts ⟨wAs C.K (.ref (C.ca x)) i (fun a cls d => suite.ts ⟨W.W, { W.ax with a := a, cls := cls, d := d }⟩) W.W D, W.ax⟩ D σ H, fun ρ st => match body.ev ρ st with
    | some (.xc e, ρ1, st1) => match sb e.x with
      | some true => if noXc ρ1 = true ∧ i < ρ1.length then (match suite.ev (ρ1.set i (.xc e)) st1 with
          | some (.rt x, ρ2, st2) => some (.rt x, ρ2.set i .no, st2)
          | some (.nx, ρ2, st2) => if noXc (ρ2.set i .no) = true then some (.nx, ρ2.set i .no, st2) else none
          | _ => none) else none
      | some false => some (.xc e, ρ1, st1)
      | none => none
    | r => r, fun {s q N0 H0 N H σ ρ ρ' st st' fl} v h W D k => by
  split at h
  · rename_i e ρ1 st1 hb
    refine body.ok v hb _ D fun d σ1 N1 H1 v1 x1 hx => ?_
    split at h
    · rename_i hs
      refine ⟨true, hsb _ _ hs, fun _ a ha => ?_, fun z => by cases z⟩
      split at h
      · rename_i hn
        have v2 : Sv C s { q with ax := { q.ax with a := a, cls := .ref (C.ca e.x), d := some d } } N0 H0 N1 H1 (σ1.set i (some (.ref a))) (ρ1.set i (.xc e)) st1 := by
          have v1' := v1.ax (ax := { q.ax with a := a, cls := .ref (C.ca e.x), d := some d }) hn.1
          exact ⟨v1'.E.set ⟨rfl, rfl, d, rfl, hx⟩ (fun x z => z.elim), v1'.I, v1'.X, fun _ => trivial, v1'.hq⟩
        cases hsu : suite.ev (ρ1.set i (.xc e)) st1 with
        | none => rw [hsu] at h; cases h
        | some r =>
          obtain ⟨f2, ρ2, st2⟩ := r
          rw [hsu] at h
          refine suite.ok v2 hsu W _ ?_
          cases f2 with
          | rt y =>
            cases h
            exact fun u N2 H2 x2 i2 r2 => k u N2 H2 x2 i2.unax r2
          | nx =>
            dsimp only at h
            split at h
            · rename_i hnn
              cases h
              intro σ2 N2 H2 v3 x3
              exact k _ _ _ (Sv.unax hnn (v3.setNo (i := i) (o := none))) (x1.trans x3)
            · cases h
          | bk => cases h
          | ct => cases h
          | xc y => cases h
      · cases h
    · rename_i hs
      cases h
      exact ⟨false, hsb _ _ hs, (fun z => by cases z), fun _ => k d σ1 N1 H1 v1 x1 hx⟩
    · cases h
  · rename_i hne
    refine body.ok v h _ D ?_
    cases fl with
    | nx => exact k
    | bk => exact k
    | ct => exact k
    | rt x => exact k
    | xc e => exact absurd h (hne e ρ' st')⟩
end
end De

namespace De
open PySem PySem.Spec PyProof.Rows L2 Dx Dg
/-- a def's body, run -/
def callD {C : Ct} (n m : Nat) (b : DSt C) (as : List En) (st : Ds) : Re PyData :=
  if as.length = n then match b.ev (as ++ List.replicate m .no) st with
    | some (.rt x, _, st1) => some (.ok x, st1)
    | some (.nx, _, st1) => some (.ok .none, st1)
    | some (.xc e, _, st1) => some (.error e, st1)
    | _ => none
  else none
theorem callD_inv {C : Ct} {n m : Nat} {b : DSt C} {as : List En} {st st' : Ds} {r : Except Xc PyData} (h : callD n m b as st = some (r, st')) : as.length = n ∧ ∃ fl ρ', b.ev (as ++ List.replicate m .no) st = some (fl, ρ', st') ∧ ((∃ x, fl = .rt x ∧ r = .ok x) ∨ (fl = .nx ∧ r = .ok .none) ∨ ∃ e, fl = .xc e ∧ r = .error e) := by
  unfold callD at h
  split at h
  · rename_i hn
    refine ⟨hn, ?_⟩
    split at h
    · cases h; exact ⟨_, _, by assumption, .inl ⟨_, rfl, rfl⟩⟩
    · cases h; exact ⟨_, _, by assumption, .inr (.inl ⟨rfl, rfl⟩)⟩
    · cases h; exact ⟨_, _, by assumption, .inr (.inr ⟨_, rfl, rfl⟩)⟩
    · cases h
  · cases h
section
variable {C : Ct} {s : Sx} {q : Sq} {N : Addr → Prop} {H : Hp}
theorem paired_len {α β : Type} {F : α → β → Prop} : ∀ {xs : List α} {ys : List β}, Paired F xs ys → xs.length = ys.length
  | _, _, .nil => rfl
  | _, _, .cons _ r => congrArg (· + 1) (paired_len r)
theorem paired_at {α β : Type} {F : α → β → Prop} : ∀ {xs : List α} {ys : List β} {i : Nat} {x : α} {y : β}, Paired F xs ys → xs[i]? = some x → ys[i]? = some y → F x y
  | _, _, 0, _, _, .cons h _, e1, e2 => by
    cases e1
    cases e2
    exact h
  | _, _, i + 1, _, _, .cons _ r, e1, e2 => paired_at (i := i) r e1 e2
theorem no_own {as : List En} {vs : List V} (r : Paired (fun v n => EnR C s q full N H n (some v)) vs as) {m i : Nat} {e : En} (h : (as ++ List.replicate m En.no)[i]? = some e) : (∀ x, e ≠ .own x) ∧ (∀ x, e ≠ .own2 x) ∧ ∀ x, e ≠ .own3 x := by
  by_cases hi : i < as.length
  · rw [List.getElem?_append_left hi] at h
    have hv : i < vs.length := by rw [paired_len r]; exact hi
    have := paired_at r (List.getElem?_eq_getElem hv) h
    refine ⟨fun x z => ?_, fun x z => ?_, fun x z => ?_⟩
    · subst z
      obtain ⟨l, xs, _, h0, _⟩ := this
      cases h0
    · subst z
      obtain ⟨l, ls, _, h0⟩ := this
      cases h0.h0
    · subst z
      obtain ⟨l, ls, _, h0⟩ := this
      cases h0.h0
  · rw [List.getElem?_append_right (Nat.le_of_not_lt hi), List.getElem?_replicate] at h
    split at h
    · cases h
      exact ⟨fun x z => (by cases z), fun x z => (by cases z), fun x z => (by cases z)⟩
    · cases h
theorem ow_none {e : En} {o : Option V} {a : Addr} (h : (∀ x, e ≠ .own x) ∧ (∀ x, e ≠ .own2 x) ∧ ∀ x, e ≠ .own3 x) (w : Ow H e o a) : False := by
  cases e with
  | own x => exact h.1 x rfl
  | own2 x => exact h.2.1 x rfl
  | own3 x => exact h.2.2 x rfl
  | _ => exact w
theorem ev_start {as : List En} {vs : List V} {Ns : List Str} {m : Nat} (r : Paired (fun v n => EnR C s q full N H n (some v)) vs as) (hm : Ns.length = vs.length + m) : Ev C s q H N H (L2.start Ns vs) (as ++ List.replicate m .no) := by
  have hl := paired_len r
  refine ⟨?_, fun i e o h1 h2 => ?_, fun i j e f o u a _ h1 _ _ _ w _ => ow_none (no_own r h1) w⟩
  · unfold L2.start
    rw [List.length_append, List.length_append, List.length_map, List.length_replicate, List.length_replicate]
    omega
  · by_cases hi : i < as.length
    · have h3 := h1
      rw [List.getElem?_append_left hi] at h3
      have hv : i < vs.length := by omega
      unfold L2.start at h2
      rw [List.getElem?_append_left (by rw [List.length_map]; exact hv), List.getElem?_map, List.getElem?_eq_getElem hv] at h2
      cases h2
      have h4 := paired_at r (List.getElem?_eq_getElem hv) h3
      cases e with
      | own x => exact absurd rfl ((no_own r h1).1 x)
      | own2 x => exact absurd rfl ((no_own r h1).2.1 x)
      | own3 x => exact absurd rfl ((no_own r h1).2.2 x)
      | no => exact trivial
      | d x => exact h4
      | st => exact h4
      | scr => exact h4
      | xc e => exact h4
      | xl e => exact h4
      | vl v => exact h4
      | ob => exact h4
      | fn j c => cases c <;> exact h4
      | dk v => obtain ⟨p, _, h0, _⟩ := h4; cases h0
    · rw [List.getElem?_append_right (Nat.le_of_not_lt hi), List.getElem?_replicate] at h1
      split at h1
      · cases h1
        exact trivial
      · cases h1
end
section
variable {P : Program} {w : World} {C : Ct} {mg : Str → Option Value} {base : Heap} {x qual : Str} {f : Addr} {fd : FuncData} {st : Stmt} {N ps : List Str} {k m : Nat} {R : Tab} {i : Nat} {body : DSt C}
theorem cl_F (F : Fd C.K x qual st f fd) (S : FnScope N ps (defScope st)) (hm : mg x = some (.ref f)) (b : Binds C.K fd ps []) (hN : N.length = ps.length + m) (hR : ∀ as st, R i as st = callD ps.length m body as st)
    (hbody : ∀ (cdv : Value) (A : Around) (outer : List Env) (s : Shared) (H : Hp) (E : XK), Room k (A.deeper (envOfC qual (defScope st) s.heap.objs.size f cdv)) → ∀ ax : Ax,
      PSs (cxOf CX0 P w C.K mg base N qual (defScope st) f cdv A outer s H E).nox (defBody st) (body.ts ⟨fun _ _ _ _ => False, ax⟩)) : Cl P w C.K mg base CX0 (k + 1) x ps (spF C R i) := by
  refine Cl.mk' F hm (ok0 F S ?_ fun cdv A outer s H vs Q E hr hs => ?_) b
  · rintro vs H Q E ⟨s, q, N1, as, st1, r, st', I, p, h, k⟩
    rw [hR] at h
    rw [paired_len p]
    exact (callD_inv h).1
  · obtain ⟨s1, q, N1, as, st1, r, st', I, p, h, k⟩ := hs
    rw [hR] at h
    obtain ⟨hl, fl, ρ', hb, hc⟩ := callD_inv h
    refine ⟨_, hbody cdv A outer s H E hr q.ax, ?_⟩
    refine body.ok (N0 := N1) (H0 := H) ⟨ev_start p (by rw [hN, paired_len p, hl]), I, .refl, fun _ => trivial, I.hq⟩ hb (fun _ _ _ _ => False) _ ?_
    rcases hc with ⟨y, rfl, e⟩ | ⟨rfl, e⟩ | ⟨y, rfl, e⟩
    · cases e
      exact fun v N' H' x i r => k v N' H' x i r
    · cases e
      exact fun σ' N' H' v _ => k _ N' H' v.X v.I .non
    · cases e
theorem cl_X (F : Fd C.K x qual st f fd) (S : FnScope N ps (defScope st)) (hm : mg x = some (.ref f)) (b : Binds C.K fd ps []) (hN : N.length = ps.length + m) (hR : ∀ as st, R i as st = callD ps.length m body as st)
    (hbody : ∀ (cdv : Value) (A : Around) (outer : List Env) (s : Shared) (H : Hp) (E : XK), Room k (A.deeper (envOfC qual (defScope st) s.heap.objs.size f cdv)) → ∀ ax : Ax,
      PSs (cxOf (L2.CX P w) P w C.K mg base N qual (defScope st) f cdv A outer s H E) (defBody st) (body.ts ⟨fun cls d _ H => E cls d H, ax⟩)) : Cl P w C.K mg base (L2.CX P w) (k + 1) x ps (spX C R i) := by
  refine Cl.mk' F hm (okX F S ?_ fun cdv A outer s H vs Q E hr hs => ?_) b
  · rintro vs H Q E ⟨s, q, N1, as, st1, r, st', I, p, h, k⟩
    rw [hR] at h
    rw [paired_len p]
    exact (callD_inv h).1
  · obtain ⟨s1, q, N1, as, st1, r, st', I, p, h, k⟩ := hs
    rw [hR] at h
    obtain ⟨hl, fl, ρ', hb, hc⟩ := callD_inv h
    refine ⟨_, hbody cdv A outer s H E hr q.ax, ?_⟩
    refine body.ok (N0 := N1) (H0 := H) ⟨ev_start p (by rw [hN, paired_len p, hl]), I, .refl, fun _ => trivial, I.hq⟩ hb (fun cls d _ H => E cls d H) _ ?_
    rcases hc with ⟨y, rfl, rfl⟩ | ⟨rfl, rfl⟩ | ⟨y, rfl, rfl⟩
    · exact fun v N' H' x i r => k N' H' x i v r
    · exact fun σ' N' H' v _ => k N' H' v.X v.I _ .non
    · exact fun d σ' N' H' v _ z => k d N' H' v.X v.I z
end
end De

namespace De
open PySem PySem.Spec PyProof.Rows L2 Dx Dg
section
variable {C : Ct}
/-! ### the state, the script -/
def stOff (C : Ct) : Nat := if C.fam = true then 1 else 0
theorem stV_at {q : Sq} {st : Ds} {n : Nat} {v : Int} (h : st.st[n]? = some v) : (stV C q st)[n + stOff C]? = some (.int v) := by
  unfold stV stOff
  split
  · show (V.ref q.a :: (st.st.map V.int ++ st.ss.map V.str))[n + 1]? = _
    rw [List.getElem?_cons_succ, List.getElem?_append_left (by rw [List.length_map]; exact (List.getElem?_eq_some_iff.mp h).1), List.getElem?_map, h]
    rfl
  · show (st.st.map V.int ++ st.ss.map V.str)[n]? = _
    rw [List.getElem?_append_left (by rw [List.length_map]; exact (List.getElem?_eq_some_iff.mp h).1), List.getElem?_map, h]
    rfl
theorem stV_set {q : Sq} {st : Ds} {n : Nat} {v : Int} (hn : n < st.st.length) : (stV C q st).set (n + stOff C) (.int v) = stV C q { st with st := st.st.set n v } := by
  unfold stV stOff
  split
  · show (V.ref q.a :: (st.st.map V.int ++ st.ss.map V.str)).set (n + 1) _ = V.ref q.a :: ((st.st.set n v).map V.int ++ st.ss.map V.str)
    rw [List.set_cons_succ, List.set_append_left _ _ (by rw [List.length_map]; exact hn), List.map_set]
  · show (st.st.map V.int ++ st.ss.map V.str).set n _ = (st.st.set n v).map V.int ++ st.ss.map V.str
    rw [List.set_append_left _ _ (by rw [List.length_map]; exact hn), List.map_set]
theorem atI_nat {α : Type} {xs : List α} {n : Nat} {x : α} (h : xs[n]? = some x) : atI xs (n : Int) = some x := by
  have hl : n < xs.length := (List.getElem?_eq_some_iff.mp h).1
  have e : ixN xs.length (n : Int) = some n := by
    unfold ixN
    rw [if_pos (by omega), if_pos (by omega)]
    rfl
  unfold atI
  rw [e]
  exact h
/-- state[n] -/
def dSt (i n : Nat) : DE C .fz := ⟨fun _ => tOp (rIxL C.K) (tVar i) (tC (.int ((n + stOff C : Nat) : Int))), fun ρ st => match ρ[i]? with
  | some .st => (st.st[n]?).map fun v => (.ok (.int v), st)
  | _ => none, fun {s q H0 N σ H ρ st st' r} E I h W Q k => by
  split at h
  · rename_i hi
    obtain ⟨o, ho, rfl, hob⟩ := E.get hi
    cases hv : st.st[n]? with
    | none => rw [hv] at h; cases h
    | some v =>
      rw [hv] at h
      cases h
      exact ⟨_, ho, s, _, _, .int v, rfl, rfl, SqL.of (I.lst hob), atI_nat (stV_at hv), k _ _ .refl I _ (.int _)⟩
  · cases h⟩
/-- state[n] = a -/
def sStSet (i n : Nat) (a : DE C .fz) : DSt C := ⟨fun W => tAsg (a.te W) (gSub (tVar i) (tC (.int ((n + stOff C : Nat) : Int))) rSetL), fun ρ st => bindS (a.ev ρ st) ρ fun x st1 => match ρ[i]?, x with
  | some .st, .int v => if n < st1.st.length then some (.nx, ρ, { st1 with st := st1.st.set n v }) else none
  | _, _ => none, fun {s q N0 H0 N H σ ρ ρ' st st' fl} v h W D k => by
  rcases bindS_inv h with ⟨e, h1, rfl, rfl⟩ | ⟨x, st1, h1, h2⟩
  · exact a.ok v.E v.I h1 W _ (SOut.out v k)
  · refine a.ok v.E v.I h1 W _ fun N1 H1 e1 I1 u r1 => ?_
    split at h2
    · rename_i z hi
      split at h2
      · rename_i hn
        cases h2
        obtain ⟨o, ho, rfl, hob⟩ := v.E.get hi
        cases Rp.int_eq r1
        refine ⟨_, ho, s, stV C q st1, _, n + stOff C, rfl, rfl, I1.lst hob, ?_, ?_⟩
        · have hl : n + stOff C < (stV C q st1).length := by
            unfold stV stOff
            split
            · show n + 1 < (V.ref q.a :: (st1.st.map V.int ++ st1.ss.map V.str)).length
              rw [List.length_cons, List.length_append, List.length_map]
              omega
            · show n + 0 < (st1.st.map V.int ++ st1.ss.map V.str).length
              rw [List.length_append, List.length_map]
              omega
          unfold ixN
          rw [if_pos (by omega), if_pos (by omega)]
          rfl
        · rw [stV_set (by omega)]
          have v1 := v.xt e1 I1
          have X : Xt s N1 H1 N1 (upd H1 s (.lst (stV C q { st1 with st := st1.st.set n z }))) := ⟨fun a o na h _ => by rw [upd_ne na.1]; exact h, (fun a o z _ h _ => by rw [upd_ne (by rintro rfl; exact I1.sS z)]; exact h), (fun a h => by
            by_cases e : a = s.a
            · subst e; rw [upd_same]; exact fun z => by cases z
            · rw [upd_ne e]; exact h), fun _ h => h, fun _ h => .inl h⟩
          have I2 : Iv C s q N1 (upd H1 s (.lst (stV C q { st1 with st := st1.st.set n z }))) { st1 with st := st1.st.set n z } := by
            refine ⟨fun a na => ?_, I1.ns, (by unfold StO; rw [hob]; exact upd_same), I1.hq.keep X.kp0, I1.sc, I1.nS, I1.sS, fun m a h => I1.fS m a (upd_none h), I1.pn, tabs_upd I1.tb (I1.lst hob) rfl⟩
            rw [upd_ne (by rintro rfl; exact I1.ns na)]
            exact I1.na a na
          exact k _ _ _ (v1.xt X I2) ((e1.trans X).fx v.I)
      · cases h2
    · cases h2⟩
/-- where the script is told: a slot; state[0] -/
structure DScr (C : Ct) where
  te : TE
  c : Rho → Bool
  ok : ∀ {s : Sx} {q : Sq} {H0 : Hp} {N : Addr → Prop} {σ : L2.St} {H : Hp} {ρ : Rho} {st : Ds}, Ev C s q H0 N H σ ρ → Iv C s q N H st → c ρ = true → ∀ Q : VK, Q (.ref q.a) H → te σ H Q
def scrV (C : Ct) (i : Nat) : DScr C := ⟨tVar i, fun ρ => match ρ[i]? with | some .scr => true | _ => false, fun E I h Q k => by
  split at h
  · rename_i hi
    obtain ⟨o, ho, rfl⟩ := E.get hi
    exact ⟨_, ho, k⟩
  · cases h⟩
def scrS (C : Ct) (hf : C.fam = true) (i : Nat) : DScr C := ⟨tOp (rIxL C.K) (tVar i) (tC (.int 0)), fun ρ => match ρ[i]? with | some .st => true | _ => false, fun {s q H0 N σ H ρ st} E I h Q k => by
  split at h
  · rename_i hi
    obtain ⟨o, ho, rfl, hob⟩ := E.get hi
    refine ⟨_, ho, s, _, 0, .ref q.a, rfl, rfl, SqL.of (I.lst hob), atI_nat (n := 0) ?_, k⟩
    unfold stV
    rw [if_pos hf]
    rfl
  · cases h⟩
def dScrL (b : DScr C) : DE C .fz := ⟨fun _ => tCB (bLen C).r (tCons b.te tNil), fun ρ st => if b.c ρ = true then some (.ok (.int st.scr.length), st) else none, fun {s q H0 N σ H ρ st st' r} E I h W Q k => by
  split at h
  · rename_i hc
    cases h
    refine b.ok E I hc _ ⟨_, q.sc.length, rfl, .inl ⟨_, I.hq.sql, by rw [List.length_map]⟩, k _ _ .refl I _ ?_⟩
    rw [I.sc]
    exact .int _
  · cases h⟩
def dScrI (b : DScr C) (ix : DE C .pk) : DE C .fz := ⟨fun W => tOp (rIxL C.K) b.te (ix.te W), fun ρ st => if b.c ρ = true then bindR (ix.ev ρ st) fun x st1 => match x with
    | .int n => (atI st1.scr n).map fun v => (.ok (.int v), st1)
    | _ => none
  else none, fun {s q H0 N σ H ρ st st' r} E I h W Q k => by
  split at h
  · rename_i hc
    refine b.ok E I hc _ ?_
    rcases bindR_inv h with ⟨e, h1, rfl⟩ | ⟨x, st1, h1, h2⟩
    · exact ix.ok E I h1 W _ k.err
    · refine ix.ok E I h1 W _ fun N1 H1 e1 I1 v r1 => ?_
      split at h2
      · rename_i n
        cases hv : atI st1.scr n with
        | none => rw [hv] at h2; cases h2
        | some v =>
          rw [hv] at h2
          cases h2
          cases pk_i r1
          refine ⟨_, _, n, .int v, rfl, rfl, I1.hq.sql, ?_, k _ _ e1 I1 _ (.int _)⟩
          rw [I1.sc] at hv
          unfold atI at hv ⊢
          rw [List.length_map]
          cases hj : ixN q.sc.length n with
          | none => rw [hj] at hv; cases hv
          | some j =>
            rw [hj] at hv
            show (q.sc.map V.int)[j]? = _
            rw [List.getElem?_map, show q.sc[j]? = some v from hv]
            rfl
      · cases h2
  · cases h⟩
end
end De

/-! The head's facts with own exceptions: a Hook that tells init defs with their class cell, classes. -/
namespace Hq
open PySem PySem.Spec PyProof.Rows L2 He ExQ NdefX
abbrev FnI : Type := Option (Str × Str × Arguments × FuncBody × Scope × Addr × List Str × Addr)
def fnI (K : PySem.W.Frag) (p : Str × Option Str) : FnI := match K.lookup (fAd K p) with
  | some ⟨_, _, .func fd, _⟩ => some (fd.name, fd.qualname, fd.params, fd.body, fd.scope, fd.globals, fd.closure.map (·.1), fd.builtins)
  | _ => none
/-- an __init__ of an own class -/
structure IniD where
  cls : Str
  qual : Str
  params : Arguments
  body : List Stmt
def IniD.at_ (d : IniD) : Str × Option Str := (d.cls, some "__init__")
def IniD.val (d : IniD) : FnI := some ("__init__", d.qual, d.params, .stmts d.body, scI, mainGlobals, ["__class__"], builtinsNs)
def celB (K : PySem.W.Frag) (cc D : Addr) : Bool := match K.lookup cc with
  | some ⟨_, _, .cell (some (.ref E)), _⟩ => decide (E = D)
  | _ => false
def filB (K : PySem.W.Frag) (file : Str) (c : Addr) : Bool := match K.lookup c with
  | some ⟨_, _, .fields vs, _⟩ => (match (vs[2]? : Option Value) with
    | some (.str fl _) => (file : Str) == fl
    | _ => false)
  | _ => false
def iniP (K : PySem.W.Frag) (file qual : Str) (D : Addr) : Value → Value → Option Addr → Value → List (Str × Addr) → Bool
  | .none, .none, none, .ref c, [(_, cc)] => PySem.W.codeIn K (.ref c) qual && (filB K file c && celB K cc D)
  | _, _, _, _, _ => false
theorem iniP_ok {K : PySem.W.Frag} {file qual : Str} {D : Addr} : ∀ {a b : Value} {n : Option Addr} {c : Value} {l : List (Str × Addr)}, iniP K file qual D a b n c l = true → ∃ c0 z cc, a = .none ∧ b = .none ∧ n = none ∧ c = .ref c0 ∧ l = [(z, cc)] ∧ PySem.W.codeIn K (.ref c0) qual = true ∧ filB K file c0 = true ∧ celB K cc D = true := by
  intro a b n c l h
  unfold iniP at h
  split at h
  · obtain ⟨k1, k2⟩ := ba h
    obtain ⟨k3, k4⟩ := ba k2
    exact ⟨_, _, _, rfl, rfl, rfl, rfl, rfl, k1, k3, k4⟩
  · cases h
def IniD.ok (K : PySem.W.Frag) (file : Str) (d : IniD) : Bool := match K.lookup (fAd K d.at_) with
  | some ⟨.type t, _, .func fd, _⟩ => decide (t = "function") && iniP K file d.qual (ga K d.cls) fd.defaults fd.kwdefaults fd.annotations fd.code fd.closure
  | _ => false
theorem celB_ok {K : PySem.W.Frag} {cc D : Addr} (h : celB K cc D = true) : ∃ o : Obj, K.lookup cc = some o ∧ o.data = .cell (some (.ref D)) := by
  unfold celB at h
  split at h
  · rename_i hq
    have e := of_decide_eq_true h
    exact ⟨_, hq, by rw [e]⟩
  · cases h
theorem filB_ok {K : PySem.W.Frag} {file : Str} {c : Addr} (h : filB K file c = true) : ∃ ccl cdd vs ccs fl tf, K.lookup c = some ⟨ccl, cdd, .fields vs, ccs⟩ ∧ vs[2]? = some (.str fl tf) ∧ ((file : Str) == fl) = true := by
  unfold filB at h
  split at h
  · rename_i hq
    split at h
    · rename_i hv
      exact ⟨_, _, _, _, _, _, hq, hv, h⟩
    · cases h
  · cases h
theorem IniD.ini {P : Program} {K : PySem.W.Frag} {d : IniD} {a1 a2 : Pos} (hp : d.params = parI a1 a2) (ht : (P.main.scope.names.lookup ("super" : Str)).isSome = false) (e : fnI K d.at_ = d.val) (c : d.ok K P.main.file = true) :
    ∃ cc c0, Ini P K (ga K d.cls) (fAd K d.at_) cc ⟨"__init__", d.qual, parI a1 a2, d.body, scI, [("__class__", cc)], c0⟩ ∧ PySem.W.typeIn K (.ref (fAd K d.at_)) = some (.type "function") ∧ PySem.W.fnIn K (fAd K d.at_) = true := by
  unfold IniD.ok at c
  unfold fnI at e
  cases q : K.lookup (fAd K d.at_) with
  | none =>
    rw [q] at c
    cases c
  | some o =>
    obtain ⟨oc, od, dt, osl⟩ := o
    rw [q] at c e
    cases dt with
    | func fd =>
      cases oc with
      | type t =>
        obtain ⟨n1, n2, n3, n4, n5, n6, n7, n8, n9, n10, n11, n12, n13, n14, n15⟩ := fd
        obtain ⟨ht1, cc2⟩ := ba c
        have et := of_decide_eq_true ht1
        subst et
        have e2 : (some (n1, n2, n3, n4, n5, n6, n7.map (·.1), n15) : FnI) = d.val := e
        unfold IniD.val at e2
        simp only [Option.some.injEq, Prod.mk.injEq] at e2
        obtain ⟨h1, h2, h3, h4, h5, h6, h7, h8⟩ := e2
        subst h1 h2 h3 h4 h5 h6 h8
        obtain ⟨c0, z, cc, rfl, rfl, rfl, rfl, rfl, k1, k3, k4⟩ := iniP_ok (show iniP K P.main.file d.qual (ga K d.cls) n8 n9 n12 n13 n7 = true from cc2)
        have hz : z = ("__class__" : Str) := (List.cons.inj h7).1
        subst hz
        refine ⟨cc, c0, ⟨?_, k1, filB_ok k3, ht, rfl, celB_ok k4, ⟨_, rfl, rfl⟩⟩, ?_, ?_⟩
        · rw [hp] at q
          exact ⟨_, od, osl, n10, n11, n14, q⟩
        · show (K.lookup (fAd K d.at_)).map (·.cls) = _
          rw [q]
          rfl
        · unfold PySem.W.fnIn
          rw [q]
      | _ => cases c
    | _ => cases oc <;> cases c
/-! ### classes -/
def oexB (K : PySem.W.Frag) (C : Addr) : Bool := (match K.lookup C with
  | some ⟨.type t, _, .cls cd, sl⟩ => (match cd.mro, sl.toList with
    | .ref C' :: bm, [_, _, _, _, some (.builtin n), _] => decide (t = "type") && (decide (C' = C) && (decide (n = "ValueError.__new__") && (!cd.hasDel && (cd.hasDict && PySem.HandSPX.refsVE bm))))
    | _, _ => false)
  | _ => false) && (eqO (PySem.W.findIn K (.ref C) "__setattr__") (some (some (.builtin "object.__setattr__"))) && (decide (PySem.W.subIn K (.ref C) (.type "BaseException") = some true) && (decide (PySem.W.typeIn K (.ref C) = some (.type "type")) && PySem.W.keepIn K (.ref C))))
theorem oexB_ok {K : PySem.W.Frag} {C : Addr} (h : oexB K C = true) : OexC K C := by
  obtain ⟨h1, h⟩ := ba h
  obtain ⟨h2, h⟩ := ba h
  obtain ⟨h3, h⟩ := ba h
  obtain ⟨h4, h5⟩ := ba h
  refine ⟨?_, eqO_ok h2, of_decide_eq_true h3, of_decide_eq_true h4, h5⟩
  split at h1
  · rename_i t dd cd sl ho
    split at h1
    · rename_i C' bm k0 k1 k2 k3 n k5 hm hs
      obtain ⟨a1, b⟩ := ba h1
      obtain ⟨a2, b⟩ := ba b
      obtain ⟨a3, b⟩ := ba b
      obtain ⟨a4, b⟩ := ba b
      obtain ⟨a5, a6⟩ := ba b
      have e1 := of_decide_eq_true a1
      have e2 := of_decide_eq_true a2
      have e3 := of_decide_eq_true a3
      subst e1 e2 e3
      obtain ⟨nm, bs, mro, ns, qn, hd, sn, sub, ab, col, del⟩ := cd
      dsimp only at hm a4 a5
      subst hm
      cases del with
      | true => cases a4
      | false =>
        cases hd with
        | false => cases a5
        | true =>
          have hsl : sl = #[k0, k1, k2, k3, some (.builtin "ValueError.__new__"), k5] := by
            obtain ⟨l⟩ := sl
            simp only at hs
            rw [hs]
          subst hsl
          exact ⟨nm, qn, ns, bs, bm, sn, sub, ab, col, dd, k0, k1, k2, k3, k5, ho, a6⟩
    · cases h1
  · cases h1
/-- C over the base D: what stands behind D in C's chain is ValueError's -/
def supB (K : PySem.W.Frag) (C D : Addr) (v : Value) : Bool := eqO (PySem.W.ks_superIn K C D "__init__") (some (some v)) && (decide (PySem.W.mroIn K C (.ref D) = some true) && ((PySem.W.clsIn K D).isSome && eqO (PySem.W.nsIn K cStatics "thirdparty.any") (some none)))
theorem supB_ok {K : PySem.W.Frag} {C D : Addr} {v : Value} (h : supB K C D v = true) : Sup K C D v := by
  obtain ⟨h1, h⟩ := ba h
  obtain ⟨h2, h⟩ := ba h
  obtain ⟨h3, h4⟩ := ba h
  exact ⟨eqO_ok h1, of_decide_eq_true h2, h3, eqO_ok h4⟩
def bcB (K : PySem.W.Frag) (C D : Addr) : Bool := oexB K C && (supB K C D (.builtin "ValueError.__init__") && (decide (PySem.W.subIn K (.ref C) (.type "ValueError") = some true) && (eqO (PySem.W.findIn K (.ref C) "place") (some none) && eqO (PySem.W.findIn K (.ref C) "name") (some none))))
theorem bcB_ok {K : PySem.W.Frag} {C D : Addr} (h : bcB K C D = true) : BC K C D := by
  obtain ⟨h1, h⟩ := ba h
  obtain ⟨h2, h⟩ := ba h
  obtain ⟨h3, h⟩ := ba h
  obtain ⟨h4, h5⟩ := ba h
  exact ⟨oexB_ok h1, supB_ok h2, of_decide_eq_true h3, eqO_ok h4, eqO_ok h5⟩
/-- an own class x over the base b, its __init__s -/
def ownB (K : PySem.W.Frag) (b x : Str) : Bool := bcB K (ga K x) (ga K b) && (supB K (ga K x) (ga K x) (.ref (fAd K (b, some "__init__"))) && (eqO (PySem.W.findIn K (.ref (ga K x)) "__init__") (some (some (.ref (fAd K (x, some "__init__"))))) && xfB K (ga K x)))
theorem ownB_ok {K : PySem.W.Frag} {b x : Str} (h : ownB K b x = true) : BC K (ga K x) (ga K b) ∧ Sup K (ga K x) (ga K x) (.ref (fAd K (b, some "__init__"))) ∧ PySem.W.findIn K (.ref (ga K x)) "__init__" = some (some (.ref (fAd K (x, some "__init__")))) ∧ XfC K (ga K x) := by
  obtain ⟨h1, h⟩ := ba h
  obtain ⟨h2, h⟩ := ba h
  obtain ⟨h3, h4⟩ := ba h
  exact ⟨bcB_ok h1, supB_ok h2, eqO_ok h3, xfB_ok h4⟩
/-! ### the Hook -/
abbrev AlQ : Type := AlD × List FnI × Bool
def obsQ (fa : List Fa) (fn : List DefD) (is : List IniD) (file : Str) (ex : PySem.W.Frag → Bool) (K : PySem.W.Frag) : AlQ := (obsD fa fn K, is.map fun d => fnI K d.at_, (is.all fun d => d.ok K file) && ex K)
def valQ (fn : List DefD) (is : List IniD) : AlQ := (valD fn, is.map IniD.val, true)
def SaysQ (fa : List Fa) (fn : List DefD) (is : List IniD) (file : Str) (ex : PySem.W.Frag → Bool) (K : PySem.W.Frag) : Prop := obsQ fa fn is file ex K = valQ fn is
def obsQG (n : Nat) (fa : List Fa) (fn : List DefD) (is : List IniD) (file : Str) (ex : PySem.W.Frag → Bool) (g : Addr → Option Obj) : AlQ := obsQ fa fn is file ex (frG g (cStatics :: asD g n))
def hookQ (n : Nat) (fa : List Fa) (fn : List DefD) (is : List IniD) (file : Str) (ex : PySem.W.Frag → Bool) : PySem.W.Hook where
  α := AlQ
  obs := fun s => obsQG n fa fn is file ex s.heap.get?
  val := fun _ => valQ fn is
  says := fun _ h => ∃ K : PySem.W.Frag, K.In h ∧ SaysQ fa fn is file ex K
  of := fun _ _ e => ⟨_, frG_in, e⟩
  keeps := fun _ _ _ ⟨K, hK, c⟩ k => ⟨K, PySem.W.Frag.In.keeps hK k, c⟩
theorem obsQG_eq {n : Nat} {fa : List Fa} {fn : List DefD} {is : List IniD} {file : Str} {ex : PySem.W.Frag → Bool} {g : Addr → Option Obj} {s : Shared} (h : ∀ a, g a = s.heap.get? a) : obsQG n fa fn is file ex g = (hookQ n fa fn is file ex).obs s := by
  have e : g = s.heap.get? := funext h
  rw [e] <;> rfl
section
variable {fa : List Fa} {fn : List DefD} {is : List IniD} {file : Str} {ex : PySem.W.Frag → Bool} {K : PySem.W.Frag}
theorem SaysQ.d (c : SaysQ fa fn is file ex K) : SaysD fa fn K := congrArg (fun z : AlQ => z.1) c
theorem SaysQ.exq (c : SaysQ fa fn is file ex K) : ex K = true := (ba (show ((is.all fun d => d.ok K file) && ex K) = true from congrArg (fun z : AlQ => z.2.2) c)).2
theorem SaysQ.ini (c : SaysQ fa fn is file ex K) (i : Nat) {d : IniD} (h : is[i]? = some d := by rfl) : fnI K d.at_ = d.val ∧ d.ok K file = true := by
  have c2 := (ba (show ((is.all fun d => d.ok K file) && ex K) = true from congrArg (fun z : AlQ => z.2.2) c)).1
  have e : is.map (fun d => fnI K d.at_) = is.map IniD.val := congrArg (fun z : AlQ => z.2.1) c
  have e2 : (is.map fun d => fnI K d.at_)[i]? = (is.map IniD.val)[i]? := by rw [e]
  rw [List.getElem?_map, List.getElem?_map, h] at e2
  exact ⟨Option.some.inj e2, List.all_eq_true.mp c2 d (List.mem_of_getElem? h)⟩
end
end Hq

namespace De
open PySem PySem.Spec PyProof.Rows L2 Dx Dg
/-! ### isinstance by the kind of data -/
def isiF (T : String) (x : PyData) : Bool := decide (tyD x = T) || (decide (T = "int") && decide (tyD x = "bool"))
def isiTs : List String := ["str", "tuple", "list", "int", "bool"]
theorem isi_ok {K : PySem.W.Frag} {T : String} (hT : isiTs.contains T = true) (x : PyData) : PySem.W.kitOne K (.type (tyD x)) (.type T) = some (isiF T x) := by
  have h : T = "str" ∨ T = "tuple" ∨ T = "list" ∨ T = "int" ∨ T = "bool" := by
    have := List.contains_iff_mem.mp hT
    simpa [isiTs] using this
  rcases h with rfl | rfl | rfl | rfl | rfl <;> cases x <;> kernel_rfl
section
variable {C : Ct}
def dIs (a : DE C .pk) (T : String) (hT : isiTs.contains T = true) : DE C .fz := ⟨fun W => tCB (rIsi C.K) (tCons (a.te W) (tCons (tC (.ty T)) tNil)), fun ρ st => bindR (a.ev ρ st) fun x st1 => if isOb x = false then some (.ok (.bool (isiF T x)), st1) else none, fun {s q H0 N σ H ρ st st' r} E I h W Q k => by
  rcases bindR_inv h with ⟨e, h1, rfl⟩ | ⟨x, st1, h1, h2⟩
  · exact a.ok E I h1 W _ k.err
  · refine a.ok E I h1 W _ fun N1 H1 e1 I1 v r1 => ?_
    split at h2
    rotate_left
    · cases h2
    rename_i ho
    cases h2
    exact ⟨v, .ty T, _, _, _, rfl, .ty T, pk_ty r1 ho, isi_ok hT x, k _ _ e1 I1 _ (.bl _)⟩⟩
end
/-! ### constants of the module -/
theorem pe_gs {X : Cx} {x z : Str} {pos : Pos} (hg : Gl X x) (h : ∃ t, X.mg x = some (.str z t)) (hd : (x == ("__debug__" : Str)) = false := by decide) : PE X (.Name x pos) (tC (.str z)) := by
  obtain ⟨t, h⟩ := h
  exact pe_glob hg h ⟨t, rfl⟩ hd
theorem pe_gi {X : Cx} {x : Str} {i : Int} {pos : Pos} (hg : Gl X x) (h : ∃ t, X.mg x = some (.int i t)) (hd : (x == ("__debug__" : Str)) = false := by decide) : PE X (.Name x pos) (tC (.int i)) := by
  obtain ⟨t, h⟩ := h
  exact pe_glob hg h ⟨t, rfl⟩ hd
theorem pe_ga {X : Cx} {x : Str} {a : Addr} {pos : Pos} (hg : Gl X x) (h : X.mg x = some (.ref a)) (hd : (x == ("__debug__" : Str)) = false := by decide) : PE X (.Name x pos) (tC (.ref a)) := pe_glob hg h rfl hd
theorem fd_place {K : PySem.W.Frag} {b x : Str} (N : Addr → Prop) (H : Hp) (u : V) (p : PyData) (h : Rp K N H u p) : ∃ w, (ExQ.fD x b u).lookup ("place" : Str) = some w ∧ Rp K N H w (id p) := ⟨u, rfl, h⟩
theorem fd_name {K : PySem.W.Frag} {b x : Str} (N : Addr → Prop) (H : Hp) (u : V) (p : PyData) (h : Rp K N H u p) : ∃ w, (ExQ.fD x b u).lookup ("name" : Str) = some w ∧ Rp K N H w ((fun _ => PyData.str x) p) := ⟨.str x, rfl, .str x⟩
end De

namespace De
open PySem PySem.Spec PyProof.Rows L2 Dx Dg
section
variable {C : Ct} {k : Kd} {W : Wc}
theorem te_dVar {i : Nat} : (dVar C i).te W = tVar i := rfl
theorem te_dPk {i : Nat} : (dPk C i).te W = tVar i := rfl
theorem te_dKn {v : V} {x : PyData} {h : ∀ N H, Rp C.K N H v x} : (dKn C v x h).te W = tC v := rfl
theorem te_dLook {d : DE C .fz} : (dLook d).te W = d.te W := rfl
theorem te_dLookN {d : DE C .nw} : (dLookN d).te W = d.te W := rfl
theorem te_dFrz {d : DE C .nw} : (dFrz d).te W = d.te W := rfl
theorem te_dOp {o : Op2 C k} {a b : DE C .pk} : (dOp o a b).te W = tOp o.r (a.te W) (b.te W) := rfl
theorem te_dB1 {o : B1 C k} {a : DE C .pk} : (dB1 o a).te W = tCB o.r (tCons (a.te W) tNil) := rfl
theorem te_dRev [Nw C] {a : DE C .pk} : (dRev a).te W = Lrev.tListRev C.K (a.te W) := rfl
theorem te_dIs {a : DE C .pk} {T : String} {h : isiTs.contains T = true} : (dIs a T h).te W = tCB (rIsi C.K) (tCons (a.te W) (tCons (tC (.ty T)) tNil)) := rfl
theorem te_aNil : (aNil C).ta W = tNil := rfl
theorem te_aD {a : DE C .fz} {t : DA C} : (aD a t).ta W = tCons (a.te W) (t.ta W) := rfl
theorem te_aSt {i : Nat} {t : DA C} : (aSt i t).ta W = tCons (tVar i) (t.ta W) := rfl
theorem te_dTup {t : DA C} : (dTup t).te W = Tn.tTupN (t.ta W) := rfl
theorem te_dLst [Nw C] {t : DA C} : (dLst t).te W = tLst (t.ta W) := rfl
theorem te_dAnd {a b : DE C .fz} : (dAnd a b).te W = tAndV (a.te W) (b.te W) := rfl
theorem te_dOr {a b : DE C .fz} : (dOr a b).te W = tOrV (a.te W) (b.te W) := rfl
theorem te_dNot {a : DE C .fz} : (dNot a).te W = tNotV (a.te W) := rfl
theorem te_dNeg {a : DE C .pk} : (dNeg a).te W = tUn (rU fun i => .int (-i)) (a.te W) := rfl
theorem te_dCh {f g : Int → Int → Bool} {a b c : DE C .pk} : (dCh f g a b c).te W = tChain (rI0 fun i j => .bl (f i j)) (rI0 fun i j => .bl (g i j)) (a.te W) (b.te W) (c.te W) := rfl
theorem te_tVal {a : DE C .fz} : (tVal a).tt W = tTest (a.te W) := rfl
theorem te_tBl {a : DE C .fz} : (tBl a).tt W = tB (a.te W) := rfl
theorem te_tYes : (tYes' C).tt W = tYes := rfl
theorem te_tAn {a b : DT C} : (tAn a b).tt W = tAnd (a.tt W) (b.tt W) := rfl
theorem te_tO {a b : DT C} : (tO a b).tt W = tOr (a.tt W) (b.tt W) := rfl
theorem te_tNo {a : DT C} : (tNo a).tt W = tNot (a.tt W) := rfl
theorem te_dIf {t : DT C} {a b : DE C .fz} : (dIf t a b).te W = tIf (t.tt W) (a.te W) (b.te W) := rfl
theorem te_dSl {o : Sl C k} {a : DE C .pk} {lo hi : Option (DE C .pk)} : (dSl o a lo hi).te W = tSl o.r (a.te W) (poT C lo W) (poT C hi W) := rfl
theorem te_po0 : poT C none W = tNoPart := rfl
theorem te_po1 {d : DE C .pk} : poT C (some d) W = tPart (d.te W) := rfl
theorem te_dCall {R : Tab} {f : Nat} {t : DA C} : (dCall R f t).te W = tCall (spF C R f) [] E0 (t.ta W) := rfl
theorem te_dCallX {R : Tab} {f : Nat} {t : DA C} : (dCallX R f t).te W = tCallS (spX C R f) (WE W.W) (t.ta W) := rfl
theorem te_iL {a : DE C .fz} : (iL a).ti W = iList C.K (a.te W) := rfl
theorem te_iLp {a : DE C .pk} : (iLp a).ti W = iList C.K (a.te W) := rfl
theorem te_iT {a : DE C .pk} : (iT a).ti W = iTup C.K (a.te W) := rfl
theorem te_iS {a : DE C .pk} : (iS a).ti W = iStr (a.te W) := rfl
theorem te_iR1 {a : DE C .pk} : (iR1 a).ti W = iRng1 (tCons (a.te W) tNil) := rfl
theorem te_iR2 {a b : DE C .pk} : (iR2 a b).ti W = iRng2 (tCons (a.te W) (tCons (b.te W) tNil)) := rfl
theorem te_gN {i : Nat} : (gN C i).g = gName i := rfl
theorem te_gT {is : List Nat} : (gT C is).g = gTup C.K is.length (gNs is) := rfl
theorem te_gs0 : gNs [] = gNil := rfl
theorem te_gs1 {i : Nat} {is : List Nat} : gNs (i :: is) = gCons (gName i) (gNs is) := rfl
theorem te_gNsl {i : Nat} : (gN C i).sl = [i] := rfl
theorem te_gTsl {is : List Nat} : (gT C is).sl = is := rfl
theorem te_dLc [Nw C] {w : DI C k} {g : DG C} {t : DT C} {e : DE C .fz} : (dLc w g t e).te W = tLc (w.ti W) g.g (t.tt W) (e.te W) g.sl := rfl
theorem te_dSt {i n : Nat} : (dSt (C := C) i n).te W = tOp (rIxL C.K) (tVar i) (tC (.int ((n + stOff C : Nat) : Int))) := rfl
theorem te_scrV {i : Nat} : (scrV C i).te = tVar i := rfl
theorem te_scrS {h : C.fam = true} {i : Nat} : (scrS C h i).te = tOp (rIxL C.K) (tVar i) (tC (.int 0)) := rfl
theorem te_dScrL {b : DScr C} : (dScrL b).te W = tCB (bLen C).r (tCons b.te tNil) := rfl
theorem te_dScrI {b : DScr C} {ix : DE C .pk} : (dScrI b ix).te W = tOp (rIxL C.K) b.te (ix.te W) := rfl
theorem te_dXf {x f : Str} {i : Nat} {pv : PyData → PyData} {hf : ∀ (N : Addr → Prop) (H : Hp) (u : V) (p : PyData), Rp C.K N H u p → ∃ w, (C.fs x u).lookup f = some w ∧ Rp C.K N H w (pv p)} : (dXf x f i pv hf).te W = tXf W.ax.a W.ax.cls W.ax.d (C.ca x) f (tVar i) := rfl
theorem ts_sSet {i : Nat} {a : DE C .fz} : (sSet i a).ts W = tAsg (a.te W) (gName i) := rfl
theorem ts_sTgt {g : DG C} {a : DE C .fz} : (sTgt g a).ts W = tAsg (a.te W) g.g := rfl
theorem ts_sNew {i : Nat} {a : DE C .nw} : (sNew i a).ts W = tAsg (a.te W) (gName i) := rfl
theorem ts_sExpr {a : DE C .pk} : (sExpr a).ts W = tDrop (a.te W) := rfl
theorem ts_sRet {a : DE C .fz} : (sRet a).ts W = tRet (a.te W) := rfl
theorem ts_sRetN : (sRetN C).ts W = tRetN := rfl
theorem ts_sSkip : (sSkip C).ts W = tNext := rfl
theorem ts_sBrk : (sBrk C).ts W = tBreak := rfl
theorem ts_sCnt : (sCnt C).ts W = tCont := rfl
theorem ts_sIf {t : DT C} {a b : DSt C} : (sIf t a b).ts W = tIfS (t.tt W) (a.ts W) (b.ts W) := rfl
theorem ts_sSeq {a b : DSt C} : (sSeq a b).ts W = tSeq (a.ts W) (b.ts W) := rfl
theorem ts_sAug {g : Int → Int → Int} {i : Nat} {a : DE C .pk} : (sAug g i a).ts W = tAug i (a.te W) (ipI g) := rfl
theorem ts_sApp {i : Nat} {a : DE C .fz} : (sApp i a).ts W = tDrop (tBM C.K "list" rAppend (tVar i) (tCons (a.te W) tNil)) := rfl
theorem ts_sExt {i : Nat} {a : DE C .pk} : (sExt i a).ts W = tDrop (tBM C.K "list" rExtend (tVar i) (tCons (a.te W) tNil)) := rfl
theorem ts_sPop {j i : Nat} : (sPop (C := C) j i).ts W = tAsg (tBM0 C.K "list" rPop (tVar i)) (gName j) := rfl
theorem ts_sPopE {i : Nat} : (sPopE C i).ts W = tDrop (tBM0 C.K "list" rPop (tVar i)) := rfl
theorem ts_sSetI {i : Nat} {ix : DE C .pk} {a : DE C .fz} : (sSetI i ix a).ts W = tAsg (a.te W) (gSub (tVar i) (ix.te W) rSetL) := rfl
theorem ts_sFrz {i : Nat} {a : DSt C} : (sFrz i a).ts W = a.ts W := rfl
theorem ts_sFor {w : DI C .fz} {g : DG C} {b : DSt C} : (sFor w g b).ts W = tFor (w.ti W) g.g (b.ts W) := rfl
theorem ts_sWhile {t : DT C} {b : DSt C} : (sWhile t b).ts W = tWhile (t.tt W) (b.ts W) := rfl
theorem ts_sRaise {x : Str} {a : DE C .fz} : (sRaise x a).ts W = fun _ σ H => ExQ.tMkX (C.ca x) (C.fs x) (a.te W) σ H fun cls d H' => W.W cls d σ H' := rfl
theorem ts_sTry {x : Str} {i : Nat} {sb : Str → Option Bool} {h : ∀ y b, sb y = some b → PySem.W.exmOne C.K (.ref (C.ca y)) (.ref (C.ca x)) = some b} {body suite : DSt C} : (sTry x i sb h body suite).ts W = fun D σ H => body.ts ⟨wAs C.K (.ref (C.ca x)) i (fun a cls d => suite.ts ⟨W.W, { W.ax with a := a, cls := cls, d := d }⟩) W.W D, W.ax⟩ D σ H := rfl
theorem ts_sStSet {i n : Nat} {a : DE C .fz} : (sStSet i n a).ts W = tAsg (a.te W) (gSub (tVar i) (tC (.int ((n + stOff C : Nat) : Int))) rSetL) := rfl
end
end De
namespace De
open PySem PySem.Spec PyProof.Rows L2 Dx Dg
section
variable {X : Cx} {x n : Str} {i : Nat} {body suite : List Stmt} {b₀ : Stmt} {np pos pos' : Pos} {C : Ct} {tb tsu : DSt C} {W : WX} {ax : Ax} {sb : Str → Option Bool} {h : ∀ y b, sb y = some b → PySem.W.exmOne C.K (.ref (C.ca y)) (.ref (C.ca x)) = some b}
theorem ps_sTry (hK : X.K = C.K) (hs : X.stack = X.env :: X.outer) (hf : X.env.frame = some X.env.locals) (hN : X.N.Nodup) (hi : X.N[i]? = some n) (hln : X.env.kindOf n = some .local) (hc : Names X x (.ref (C.ca x))) (tk : Takes X W)
    (hb : ∀ (W' : WX) (pn : List (Addr × Obj)) (xe : Value → Shared → Prop), Takes (X.tr pn xe) W' → PassesOwn (model X.prog X.w) X.A X.env xe → PSs (X.tr pn xe) body (tb.ts ⟨W', ax⟩))
    (hsu : ∀ (a : Addr) (oe : Obj) (cls : Value) (d : Option Addr) (pn : List (Addr × Obj)), Zc cls d oe → (∃ vs, oe.data = .fields vs) → PSs (X.suite a ((a, oe) :: pn)) (b₀ :: suite) (tsu.ts ⟨W, { ax with a := a, cls := cls, d := d }⟩)) :
    PS X (.Try body [.ExceptHandler (some (.Name x np)) (some n) (b₀ :: suite) pos'] [] [] pos) ((sTry x i sb h tb tsu).ts ⟨W, ax⟩) := by
  have r := ps_try_as (i := i) (np := np) (pos := pos) (pos' := pos') (tb := fun W' => tb.ts ⟨W', ax⟩) (ts := fun a cls d => tsu.ts ⟨W, { ax with a := a, cls := cls, d := d }⟩) (Wout := W) hs hf hN hi hln hc tk hb hsu
  rw [hK] at r
  exact r
end
end De

namespace De
open PySem PySem.Spec PyProof.Rows L2 Dx Dg
def ax0 : Ax := ⟨0, .none, none, [], [], []⟩
/-- the law's promise -/
def spLaw (K : PySem.W.Frag) : Sp := fun vs H Q _ => ∃ (a : Addr) (ns : List Int), vs = [.ref a] ∧ ns.length ≤ 63 ∧ SqL K H a (ns.map V.int) ∧ ∀ H', Q (.bl true) H'
section
variable {P : Program} {w : World} {C : Ct} {mg : Str → Option Value} {base : Heap} {f : Addr} {fd : FuncData} {st : Stmt} {Nr : List Str} {k : Nat} {body : DSt C} {te : TE} {s0 : List Int} {R : Tab}
theorem law_F (hmd : C.md = false) (hT : C.T = []) (F : Fd C.K "law" "law" st f fd) (S : FnScope ("script" :: "state" :: Nr) ["script"] (defScope st))
    (hte : ∀ (σ : L2.St) (H : Hp) (a : Addr) (Q : VK), σ[0]? = some (some (.ref a)) → (∀ p, H p = none → Q (.ref p) (upd H p (.lst (stV C ⟨a, [], ax0, none, none⟩ ⟨[], s0, [], false, []⟩)))) → te σ H Q)
    (hev : ∀ ns : List Int, ns.length ≤ 63 → ∃ ρ' st', body.ev (.scr :: .st :: List.replicate Nr.length .no) ⟨ns, s0, [], false, []⟩ = some (.rt (.bool true), ρ', st'))
    (hbody : ∀ (cdv : Value) (A : Around) (outer : List Env) (s : Shared) (H : Hp) (E : XK), Room k (A.deeper (envOfC "law" (defScope st) s.heap.objs.size f cdv)) →
      PSs (cxOf CX0 P w C.K mg base ("script" :: "state" :: Nr) "law" (defScope st) f cdv A outer s H E).nox (defBody st) (tSeq (tAsg te (gName 1)) (body.ts ⟨fun _ _ _ _ => False, ax0⟩))) : FnOk P w C.K mg base CX0 (k + 1) f fd ["script"] (spLaw C.K) := by
  refine ok0 F S ?_ fun cdv A outer s H vs Q E hr hs => ⟨_, hbody cdv A outer s H E hr, ?_⟩
  · rintro vs H Q E ⟨a, ns, rfl, _⟩
    rfl
  · obtain ⟨a, ns, rfl, hn, hS, hQ⟩ := hs
    obtain ⟨ρ', st', he⟩ := hev ns hn
    refine hte _ _ a _ rfl fun p hp => ?_
    let q : Sq := ⟨a, ns, ax0, none, none⟩
    let sx : Sx := ⟨p, fun _ => False⟩
    let N0 : Addr → Prop := fun _ => False
    let H1 : Hp := upd H p (.lst (stV C q ⟨ns, s0, [], false, []⟩))
    have I : Iv C sx q N0 H1 ⟨ns, s0, [], false, []⟩ := by
      refine ⟨fun _ z => z.elim, fun z => z, upd_same, ?_, rfl, fun _ _ z => z, fun z => z, fun m => (by rw [hmd] at m; cases m), rfl, fun p hp => (by rw [hT] at hp; cases hp)⟩
      rcases hS with (h | ⟨o, h⟩) | h
      · have n : a ≠ p := by rintro rfl; rw [hp] at h; cases h
        exact .inl ⟨.inl ((upd_ne n).trans h), n, fun z => z⟩
      · have n : a ≠ p := by rintro rfl; rw [hp] at h; cases h
        exact .inl ⟨.inr ⟨o, (upd_ne n).trans h⟩, n, fun z => z⟩
      · exact .inr h
    have E0 : Ev C sx q H1 N0 H1 (L2.start ("script" :: "state" :: Nr) [.ref a]) (List.replicate (Nr.length + 2) .no) := by
      refine ⟨?_, fun i e o h1 _ => ?_, fun i j e f o u b _ h1 _ _ _ w _ => ?_⟩
      · unfold L2.start
        simp
      · rw [List.getElem?_replicate] at h1
        split at h1
        · cases h1; exact trivial
        · cases h1
      · rw [List.getElem?_replicate] at h1
        split at h1
        · cases h1
          exact w
        · cases h1
    have E1 := (E0.set (i := 0) (n := .scr) (o := some (.ref a)) rfl fun _ z => z.elim).set (i := 1) (n := .st) (o := some (.ref p)) ⟨rfl, rfl⟩ fun _ z => z.elim
    have E2 : Ev C sx q H1 N0 H1 ((L2.start ("script" :: "state" :: Nr) [.ref a]).set 1 (some (.ref p))) (.scr :: .st :: List.replicate Nr.length .no) := E1
    exact body.ok (s := sx) (q := q) ⟨E2, I, .refl, fun _ => trivial, I.hq⟩ he _ _ fun v N' H' _ _ r => by
      cases r
      exact hQ H'
end
/-! ### starts -/
/-- return [script, 0, 0, 7] -/
def spStart : Sp := fun vs H Q _ => ∃ a : Addr, vs = [.ref a] ∧ ∀ p, H p = none → Q (.ref p) (upd H p (.lst [.ref a, .int 0, .int 0, .int 7]))
theorem start_ok {σ : L2.St} {H : Hp} {a : Addr} {Q : VK} {C : Ct} (hf : C.fam = true) (h0 : σ[0]? = some (some (.ref a))) (h : ∀ p, H p = none → Q (.ref p) (upd H p (.lst (stV C ⟨a, [], ax0, none, none⟩ ⟨[], [0, 0, 7], [], false, []⟩)))) : tCall spStart [] E0 (tCons (tVar 0) tNil) σ H Q :=
  ⟨_, h0, a, rfl, fun p hp => by
    have e := h p hp
    unfold stV at e
    rw [if_pos hf] at e
    exact e⟩
/-- state = [0, 0] -/
theorem start0_ok {σ : L2.St} {H : Hp} {a : Addr} {Q : VK} {C : Ct} (hf : C.fam = false) (h0 : σ[0]? = some (some (.ref a))) (h : ∀ p, H p = none → Q (.ref p) (upd H p (.lst (stV C ⟨a, [], ax0, none, none⟩ ⟨[], [0, 0], [], false, []⟩)))) : tLst (tCons (tC (.int 0)) (tCons (tC (.int 0)) tNil)) σ H Q :=
  ⟨by decide, fun p hp => by
    have e := h p hp
    unfold stV at e
    rw [hf] at e
    exact e⟩
section
variable {P : Program} {w : World} {K : PySem.W.Frag} {mg : Str → Option Value} {base : Heap} {f : Addr} {fd : FuncData} {st : Stmt} {k : Nat}
/-- _law_start -/
theorem start_F (F : Fd K "_law_start" "_law_start" st f fd) (S : FnScope ["script"] ["script"] (defScope st)) (hm : mg "_law_start" = some (.ref f)) (b : Binds K fd ["script"] [])
    (hbody : ∀ (cdv : Value) (A : Around) (outer : List Env) (s : Shared) (H : Hp) (E : XK), Room k (A.deeper (envOfC "_law_start" (defScope st) s.heap.objs.size f cdv)) →
      PSs (cxOf CX0 P w K mg base ["script"] "_law_start" (defScope st) f cdv A outer s H E).nox (defBody st) (tRet (tLst (tCons (tVar 0) (tCons (tC (.int 0)) (tCons (tC (.int 0)) (tCons (tC (.int 7)) tNil))))))) : Cl P w K mg base CX0 (k + 1) "_law_start" ["script"] spStart := by
  refine Cl.mk' F hm (ok0 F S ?_ fun cdv A outer s H vs Q E hr hs => ⟨_, hbody cdv A outer s H E hr, ?_⟩) b
  · rintro vs H Q E ⟨a, rfl, _⟩
    rfl
  · obtain ⟨a, rfl, h⟩ := hs
    exact ⟨_, rfl, sz_of (show 4 ≤ 100000 by omega), fun p hp => h p hp⟩
theorem Cl.mono {CX : CXT} {j k : Nat} {x : Str} {ps : List Str} {sp : Sp} (c : Cl P w K mg base CX j x ps sp) (h : j ≤ k) : Cl P w K mg base CX k x ps sp := by
  obtain ⟨f, fd, F, r⟩ := c.ex
  exact ⟨f, fd, F.mono h, r⟩
/-- nothing is promised yet -/
theorem cl_none {CX : CXT} {k : Nat} {C : Ct} {x : Str} {ps : List Str} {i : Nat} (F : Fd C.K x x st f fd) (hm : mg x = some (.ref f)) (b : Binds C.K fd ps []) : Cl P w C.K mg base CX k x ps (spF C (fun _ _ _ => none) i) :=
  Cl.mk' F hm ⟨fun vs H Q E ⟨_, _, _, _, _, _, _, _, _, h, _⟩ => (by cases h), fun _ _ _ _ _ _ _ _ _ _ _ _ _ ⟨_, _, _, _, _, _, _, _, _, h, _⟩ => (by cases h)⟩ b
theorem cl_noneX {CX : CXT} {k : Nat} {C : Ct} {x : Str} {ps : List Str} {i : Nat} (F : Fd C.K x x st f fd) (hm : mg x = some (.ref f)) (b : Binds C.K fd ps []) : Cl P w C.K mg base CX k x ps (spX C (fun _ _ _ => none) i) :=
  Cl.mk' F hm ⟨fun vs H Q E ⟨_, _, _, _, _, _, _, _, _, h, _⟩ => (by cases h), fun _ _ _ _ _ _ _ _ _ _ _ _ _ ⟨_, _, _, _, _, _, _, _, _, h, _⟩ => (by cases h)⟩ b
end
end De

namespace De
open PySem PySem.Spec PyProof.Rows L2 Dx Dg
section
variable {C : Ct} {k : Kd} {s : Sx} {q : Sq} {N0 N N1 N' : Addr → Prop} {H0 H H1 H' : Hp} {σ : L2.St} {ρ ρ' : Rho} {st st' st1 : Ds} {W : WX} {D : Ends} {fl : Fl}
/-! ### lists of lists of one's own -/
theorem Ev.own2 {dss : List (List PyData)} (E : Ev C s q H0 N H σ ρ) {i : Nat} (hi : ρ[i]? = some (.own2 dss)) : ∃ l ls, σ[i]? = some (some (.ref l)) ∧ O2 C.K s H0 N H l ls dss := by
  obtain ⟨o, ho, l, ls, rfl, w⟩ := E.get hi
  exact ⟨l, ls, ho, w⟩
/-- x = [[]] -/
def sNew2 (C : Ct) [Nw C] (i : Nat) : DSt C := ⟨fun _ => tAsg (tLst (tCons (tLst tNil) tNil)) (gName i), fun ρ st => some (.nx, ρ.set i (.own2 [[]]), st), fun {s q N0 H0 N H σ ρ ρ' st st' fl} v h W D k => by
  cases h
  refine ⟨sz_of (show 0 ≤ 100000 by omega), fun p hp => ⟨sz_of (show 1 ≤ 100000 by omega), fun p2 hp2 => ?_⟩⟩
  have hne : p2 ≠ p := by
    rintro rfl
    rw [upd_same] at hp2
    cases hp2
  have hp2' : H p2 = none := by
    rw [upd_ne hne] at hp2
    exact hp2
  have X1 : Xt s N H N (upd H p (.lst [])) := Xt.new hp
  have I1 := v.I.new (o := .lst []) hp
  have X2 : Xt s N (upd H p (.lst [])) N (upd (upd H p (.lst [])) p2 (.lst [.ref p])) := Xt.new hp2
  have I2 := I1.new (o := .lst [V.ref p]) hp2
  have v2 := v.xt (X1.trans X2) I2
  have np : ¬ N p := fun z => v.I.na p z hp
  have np2 : ¬ N p2 := fun z => v.I.na p2 z hp2'
  have sp : Nt s p := v.I.nt hp
  have sp2 : Nt s p2 := v.I.nt hp2'
  have o2 : O2 C.K s H0 N (upd (upd H p (.lst [])) p2 (.lst [.ref p])) p2 [p] [[]] := by
    refine ⟨v.X.free hp2', np2, sp2, upd_same, by simpa using hne, by simp, rfl, fun j a es e1 e2 => ?_⟩
    match j, e1, e2 with
    | 0, e1, e2 =>
      cases e1
      cases e2
      exact ⟨v.X.free hp, [], np, sp, by rw [upd_ne hne.symm]; exact upd_same, .nil⟩
    | j + 1, e1, e2 => simp at e1
  refine k _ _ _ ⟨v2.E.set ⟨p2, [p], rfl, o2⟩ fun a w j e u hj h1 h2 w2 => ?_, v2.I, v2.X, fun _ => trivial, v2.hq⟩ ((X1.trans X2).fx v.I)
  have r := v.E.at_ j e u h1 h2
  obtain ⟨⟨us, hu⟩, _⟩ := r.ow (r.ow_back (r.okp (X1.trans X2)) ((X1.trans X2).fx v.I).tp w2)
  obtain ⟨l, ls, h3, h4, h5⟩ := w
  cases h3
  rw [upd_same] at h4
  injection h4 with h4
  injection h4 with h4
  have e := refs_inj (ls := [p]) h4
  subst e
  rcases h5 with rfl | h5
  · rw [hp2'] at hu
    cases hu
  · cases (List.mem_singleton.mp h5)
    rw [hp] at hu
    cases hu⟩
/-- x[n], looked at -/
def dPk2 (i : Nat) (ix : DE C .pk) : DE C .pk := ⟨fun W => tOp (rIxL C.K) (tVar i) (ix.te W), fun ρ st => match ρ[i]? with
  | some (.own2 dss) => bindR (ix.ev ρ st) fun x st1 => match x with
    | .int n => (atI dss n).map fun ds => (.ok (.list ds), st1)
    | _ => none
  | _ => none, fun {s q H0 N σ H ρ st st' r} E I h W Q k => by
  split at h
  · rename_i dss hi
    obtain ⟨l, ls, ho, w⟩ := E.own2 hi
    refine ⟨_, ho, ?_⟩
    rcases bindR_inv h with ⟨e, h1, rfl⟩ | ⟨x, st1, h1, h2⟩
    · exact ix.ok E I h1 W _ k.err
    · refine ix.ok E I h1 W _ fun N1 H1 e1 I1 u r1 => ?_
      split at h2
      · rename_i n
        cases hd : atI dss n with
        | none => rw [hd] at h2; cases h2
        | some ds =>
          rw [hd] at h2
          cases h2
          cases pk_i r1
          have w1 := w.xt I e1
          unfold atI at hd
          cases hj : ixN dss.length n with
          | none => rw [hj] at hd; cases hd
          | some j =>
            rw [hj] at hd
            have hd2 : dss[j]? = some ds := hd
            have hl : j < ls.length := by rw [w1.len]; exact (List.getElem?_eq_some_iff.mp hd2).1
            obtain ⟨_, xs, w2⟩ := w1.at_ j ls[j] ds (List.getElem?_eq_getElem hl) hd2
            refine ⟨l, ls.map V.ref, n, .ref ls[j], rfl, rfl, SqL.of w1.hl, ?_, k _ _ e1 I1 _ (.inr ⟨_, xs, ds, rfl, rfl, w2⟩)⟩
            unfold atI
            rw [List.length_map, w1.len, hj]
            show (ls.map V.ref)[j]? = _
            rw [List.getElem?_map, List.getElem?_eq_getElem hl]
            rfl
      · cases h2
  · cases h⟩
theorem nodup_inj {ls : List Addr} {i j : Nat} {a : Addr} (h : ls.Nodup) (hi : ls[i]? = some a) (hj : ls[j]? = some a) : i = j := by
  obtain ⟨li, ei⟩ := List.getElem?_eq_some_iff.mp hi
  obtain ⟨lj, ej⟩ := List.getElem?_eq_some_iff.mp hj
  have pw := List.pairwise_iff_getElem.mp h
  rcases Nat.lt_trichotomy i j with q | q | q
  · exact absurd (ei.trans ej.symm) (pw i j li lj q)
  · exact q
  · exact absurd (ej.trans ei.symm) (pw j i lj li q)
theorem nodup_last {ls : List Addr} {a : Addr} (h : ls.Nodup) (ha : ls[ls.length - 1]? = some a) : a ∉ ls.dropLast := by
  intro hm
  obtain ⟨i, hi, e⟩ := List.mem_iff_getElem.mp hm
  have hi2 := hi
  rw [List.length_dropLast] at hi2
  rw [List.getElem_dropLast] at e
  have h3 : i < ls.length := by omega
  have h4 : ls[i]? = some a := by rw [List.getElem?_eq_getElem h3, e]
  have := nodup_inj h h4 ha
  omega
/-- slot i's own lists, after a change of the outer list -/
theorem O2.outer {l : Addr} {ls ms : List Addr} {dss ess : List (List PyData)} (w : O2 C.K s H0 N H l ls dss) (hm : ∀ a, a ∈ ms → a ∈ ls) (nd : ms.Nodup) (len : ms.length = ess.length) (hat : ∀ (j : Nat) (a : Addr) (ds : List PyData), ms[j]? = some a → ess[j]? = some ds → ∃ j' : Nat, ls[j']? = some a ∧ dss[j']? = some ds) :
    O2 C.K s H0 N (upd H l (.lst (ms.map V.ref))) l ms ess :=
  ⟨w.h0, w.nn, w.sl, upd_same, fun z => w.out (hm l z), nd, len, fun j a ds h1 h2 => by
    obtain ⟨j', h3, h4⟩ := hat j a ds h1 h2
    obtain ⟨h5, xs, h6⟩ := w.at_ j' a ds h3 h4
    have hne : a ≠ l := by
      rintro rfl
      exact w.out (List.mem_of_getElem? h3)
    exact ⟨h5, xs, h6.nn, h6.ls, by rw [upd_ne hne]; exact h6.hl, rps_mut w.hl w.nn h6.r⟩⟩
theorem ow2 {l : Addr} {ls : List Addr} {dss : List (List PyData)} {a : Addr} (hl : H l = some (.lst (ls.map V.ref))) (h : Ow H (.own2 dss) (some (.ref l)) a) : a = l ∨ a ∈ ls := by
  obtain ⟨l', ls', h1, h2, h3⟩ := h
  cases h1
  rw [hl] at h2
  injection h2 with h2
  injection h2 with h2
  cases refs_inj h2
  exact h3
/-- y = x.pop() -/
def sPop2 (j i : Nat) : DSt C := ⟨fun _ => tAsg (tBM0 C.K "list" rPop (tVar i)) (gName j), fun ρ st => match ρ[i]? with
  | some (.own2 dss) => match dss[dss.length - 1]? with
    | some ds => some (.nx, (ρ.set i (.own2 dss.dropLast)).set j (.own ds), st)
    | none => none
  | _ => none, fun {s q N0 H0 N H σ ρ ρ' st st' fl} v h W D k => by
  split at h
  · rename_i dss hi
    split at h
    · rename_i ds hd
      cases h
      obtain ⟨l, ls, ho, w⟩ := v.E.own2 hi
      have hlast : ls.length - 1 < ls.length := by
        have := (List.getElem?_eq_some_iff.mp hd).1
        rw [w.len]
        exact this
      have ha : ls[ls.length - 1]? = some ls[ls.length - 1] := List.getElem?_eq_getElem hlast
      let a := ls[ls.length - 1]
      obtain ⟨ha0, xs, wa⟩ := w.at_ _ a ds ha (by rw [w.len]; exact hd)
      refine ⟨_, ho, tyV_lst w.hl, l, ls.map V.ref, .ref a, rfl, rfl, w.hl, by rw [List.length_map, List.getElem?_map, ha]; rfl, ?_⟩
      have em : (ls.map V.ref).dropLast = ls.dropLast.map V.ref := by rw [List.map_dropLast]
      rw [em]
      have o2 : O2 C.K s H0 N (upd H l (.lst (ls.dropLast.map V.ref))) l ls.dropLast dss.dropLast := by
        refine w.outer (fun b hb => List.dropLast_subset _ hb) (w.nd.sublist (List.dropLast_sublist _)) (by rw [List.length_dropLast, List.length_dropLast, w.len]) fun j b es h1 h2 => ⟨j, ?_, ?_⟩
        · rw [List.getElem?_dropLast] at h1
          split at h1
          · exact h1
          · cases h1
        · rw [List.getElem?_dropLast] at h2
          split at h2
          · exact h2
          · cases h2
      have hwi : Ow H (.own2 dss) (some (.ref l)) l := ⟨l, ls, rfl, w.hl, .inl rfl⟩
      obtain ⟨v1, f1⟩ := v.chg (n' := .own2 dss.dropLast) hi ho hwi ⟨l, _, rfl, o2⟩ fun b hb => by
        rcases ow2 upd_same hb with rfl | hb
        · exact hwi
        · exact ⟨l, ls, rfl, w.hl, .inr (List.dropLast_subset _ hb)⟩
      have hne : a ≠ l := by
        rintro e
        exact w.out (by rw [← e]; exact List.mem_of_getElem? ha)
      have wa1 : Lw C.K s N (upd H l (.lst (ls.dropLast.map V.ref))) a xs ds := ⟨wa.nn, wa.ls, by rw [upd_ne hne]; exact wa.hl, rps_mut w.hl w.nn wa.r⟩
      refine k _ _ _ (v1.setOwn ha0 (fun j' e u hj h1 h2 w2 => ?_) wa1) f1
      by_cases hij : i = j'
      · subst hij
        rw [List.getElem?_set_self (List.getElem?_eq_some_iff.mp hi).1] at h1
        cases h1
        rw [ho] at h2
        cases h2
        rcases ow2 upd_same w2 with e | e
        · exact hne e
        · exact nodup_last w.nd ha e
      · rw [List.getElem?_set_ne hij] at h1
        have r := v.E.at_ j' e u h1 h2
        have no : ¬ Ow H e u l := fun z => v.E.dis j' i e _ u _ l (fun z => hij z.symm) h1 hi h2 ho z hwi
        have w3 := r.ow_back (fun b x y hb => by rw [upd_ne (by rintro rfl; exact no y)]; exact hb) (fun b xs h => by rw [upd_ne (by rintro rfl; rw [w.hl] at h; cases h)]; exact h) w2
        exact v.E.dis j' i e _ u _ a (fun z => hij z.symm) h1 hi h2 ho w3 ⟨l, ls, rfl, w.hl, .inr (List.mem_of_getElem? ha)⟩
    · cases h
  · cases h⟩
/-- x.append([]) -/
def sPush2 (C : Ct) [Nw C] (i : Nat) : DSt C := ⟨fun _ => tDrop (tBM C.K "list" rAppend (tVar i) (tCons (tLst tNil) tNil)), fun ρ st => match ρ[i]? with
  | some (.own2 dss) => if dss.length < 100000 then some (.nx, ρ.set i (.own2 (dss ++ [[]])), st) else none
  | _ => none, fun {s q N0 H0 N H σ ρ ρ' st st' fl} v h W D k => by
  split at h
  · rename_i dss hi
    split at h
    · rename_i hz
      cases h
      obtain ⟨l, ls, ho, w⟩ := v.E.own2 hi
      refine ⟨_, ho, tyV_lst w.hl, sz_of (show 0 ≤ 100000 by omega), fun p hp => ?_⟩
      have X1 : Xt s N H N (upd H p (.lst [])) := Xt.new hp
      have v1 := v.xt X1 (v.I.new (o := .lst []) hp)
      have w1 := w.xt v.I X1
      have np : ¬ N p := fun z => v.I.na p z hp
      have sp : Nt s p := v.I.nt hp
      have hpl : p ≠ l := by rintro rfl; rw [w.hl] at hp; cases hp
      have hpn : p ∉ ls := fun z => by
        obtain ⟨j, hj, e⟩ := List.mem_iff_getElem.mp z
        have hj2 : j < dss.length := by rw [← w.len]; exact hj
        obtain ⟨_, xs, w2⟩ := w.at_ j p dss[j] (by rw [List.getElem?_eq_getElem hj, e]) (List.getElem?_eq_getElem hj2)
        rw [w2.hl] at hp
        cases hp
      refine ⟨l, ls.map V.ref, .ref p, rfl, rfl, w1.hl, by rw [List.length_map, w.len]; exact sz_lt hz, ?_⟩
      have em : ls.map V.ref ++ [.ref p] = (ls ++ [p]).map V.ref := by rw [List.map_append]; rfl
      rw [em]
      have o2 : O2 C.K s H0 N (upd (upd H p (.lst [])) l (.lst ((ls ++ [p]).map V.ref))) l (ls ++ [p]) (dss ++ [[]]) := by
        refine ⟨w.h0, w.nn, w.sl, upd_same, fun z => ?_, ?_, by rw [List.length_append, List.length_append, w.len]; rfl, fun j a es h1 h2 => ?_⟩
        · rcases List.mem_append.mp z with z | z
          · exact w.out z
          · exact hpl (List.mem_singleton.mp z).symm
        · refine List.nodup_append.mpr ⟨w.nd, by simp, fun a ha b hb => ?_⟩
          cases List.mem_singleton.mp hb
          rintro rfl
          exact hpn ha
        · by_cases hj : j < ls.length
          · rw [List.getElem?_append_left hj] at h1
            rw [List.getElem?_append_left (by rw [← w.len]; exact hj)] at h2
            obtain ⟨h5, xs, h6⟩ := w1.at_ j a es h1 h2
            have hne : a ≠ l := by rintro rfl; exact w.out (List.mem_of_getElem? h1)
            exact ⟨h5, xs, h6.nn, h6.ls, by rw [upd_ne hne]; exact h6.hl, rps_mut w1.hl w1.nn h6.r⟩
          · rw [List.getElem?_append_right (Nat.le_of_not_lt hj)] at h1
            rw [List.getElem?_append_right (by rw [← w.len]; exact Nat.le_of_not_lt hj), ← w.len] at h2
            cases hjj : j - ls.length with
            | zero =>
              rw [hjj] at h1 h2
              cases h1
              cases h2
              exact ⟨v.X.free hp, [], np, sp, by rw [upd_ne hpl]; exact upd_same, .nil⟩
            | succ m =>
              rw [hjj] at h1
              simp at h1
      have E1 := v1.E
      have hwi : Ow (upd H p (.lst [])) (.own2 dss) (some (.ref l)) l := ⟨l, ls, rfl, w1.hl, .inl rfl⟩
      -- the new inner list is first taken in by slot i
      have X : Xt s N0 H0 N (upd (upd H p (.lst [])) l (.lst ((ls ++ [p]).map V.ref))) := by
        exact v1.X.updO w.h0
      have no : ∀ (j : Nat) (e : En) (u : Option V), j ≠ i → ρ[j]? = some e → σ[j]? = some u → ¬ Ow (upd H p (.lst [])) e u l := fun j e u hj h1 h2 z => E1.dis j i e _ u _ l hj h1 hi h2 ho z hwi
      have E2 : Ev C s q H0 N (upd (upd H p (.lst [])) l (.lst ((ls ++ [p]).map V.ref))) σ (ρ.set i .no) := by
        have self : ∀ {y : En}, (ρ.set i .no)[i]? = some y → y = .no := fun {y} h => by
          rw [List.getElem?_set_self (List.getElem?_eq_some_iff.mp hi).1] at h
          cases h
          rfl
        refine ⟨by rw [List.length_set]; exact E1.len, fun j e u h1 h2 => ?_, fun j1 j2 e1 e2 u1 u2 a hj h1 h2 h3 h4 q1 q2 => ?_⟩
        · by_cases hj : i = j
          · subst hj
            cases self h1
            exact trivial
          · rw [List.getElem?_set_ne hj] at h1
            exact (E1.at_ j e u h1 h2).chg w1.hl w1.nn (no j e u (fun z => hj z.symm) h1 h2)
        · by_cases k1 : i = j1
          · subst k1
            cases self h1
            exact q1.elim
          · by_cases k2 : i = j2
            · subst k2
              cases self h2
              exact q2.elim
            · rw [List.getElem?_set_ne k1] at h1
              rw [List.getElem?_set_ne k2] at h2
              have bk : ∀ (j : Nat) (e : En) (u : Option V), j ≠ i → ρ[j]? = some e → σ[j]? = some u → Ow (upd (upd H p (.lst [])) l (.lst ((ls ++ [p]).map V.ref))) e u a → Ow (upd H p (.lst [])) e u a := fun j e u hj h1 h2 z =>
                (E1.at_ j e u h1 h2).ow_back (fun b x y hb => by rw [upd_ne (by rintro rfl; exact no j e u hj h1 h2 y)]; exact hb) (fun b xs h => by rw [upd_ne (by rintro rfl; rw [w1.hl] at h; cases h)]; exact h) z
              exact E1.dis j1 j2 e1 e2 u1 u2 a hj h1 h2 h3 h4 (bk j1 e1 u1 (fun z => k1 z.symm) h1 h3 q1) (bk j2 e2 u2 (fun z => k2 z.symm) h2 h4 q2)
      have E3 := E2.set (i := i) (n := .own2 (dss ++ [[]])) (o := some (.ref l)) ⟨l, _, rfl, o2⟩ fun a wa j e u hj h1 h2 w2 => by
        rw [List.getElem?_set_ne hj.symm] at h1
        have r := v.E.at_ j e u h1 h2
        have w3 := (E1.at_ j e u h1 h2).ow_back (fun b x y hb => by rw [upd_ne (by rintro rfl; exact no j e u hj h1 h2 y)]; exact hb) (fun b xs h => by rw [upd_ne (by rintro rfl; rw [w1.hl] at h; cases h)]; exact h) w2
        have w4 := r.ow_back (r.okp X1) (X1.fx v.I).tp w3
        rcases ow2 upd_same wa with e1 | e1
        · subst e1
          exact no j e u hj h1 h2 w3
        · rcases List.mem_append.mp e1 with e1 | e1
          · exact v.E.dis j i e _ u _ a hj h1 hi h2 ho w4 ⟨l, ls, rfl, w.hl, .inr e1⟩
          · cases List.mem_singleton.mp e1
            obtain ⟨⟨us, hu⟩, _⟩ := r.ow w4
            rw [hp] at hu
            cases hu
      rw [set_same ho, List.set_set] at E3
      refine k _ _ _ ⟨E3, ⟨fun a n => ?_, v1.I.ns, ?_, v1.hq.keep X.kp0, v1.I.sc, v1.I.nS, v1.I.sS, fun m a h => v1.I.fS m a (upd_none h), v1.I.pn, tabs_upd v1.I.tb w1.hl rfl⟩, X, fun _ => trivial, v1.hq⟩ ((X1.fx v.I).trans (Fx.mut w1.hl w1.nn))
      · rw [upd_ne (by rintro rfl; exact w1.nn n)]
        exact v1.I.na a n
      · exact v1.I.hs.updO w1.hl w1.nn w.sl
    · cases h
  · cases h⟩
/-- the j-th inner list is changed -/
theorem Sv.inner (v : Sv C s q N0 H0 N H σ ρ st) {i j : Nat} {l a : Addr} {ls : List Addr} {dss : List (List PyData)} {ds es : List PyData} {ys : List V} (hi : ρ[i]? = some (.own2 dss)) (ho : σ[i]? = some (some (.ref l))) (w : O2 C.K s H0 N H l ls dss)
    (ha : ls[j]? = some a) (hd : dss[j]? = some ds) (r : RpAll C.K N H ys es) : Sv C s q N0 H0 N (upd H a (.lst ys)) σ (ρ.set i (.own2 (dss.set j es))) st ∧ Fx N H N (upd H a (.lst ys)) := by
  obtain ⟨h0, xs, wa⟩ := w.at_ j a ds ha hd
  have hne : l ≠ a := by rintro rfl; exact w.out (List.mem_of_getElem? ha)
  have hl' : (upd H a (.lst ys)) l = some (.lst (ls.map V.ref)) := by rw [upd_ne hne]; exact w.hl
  refine v.chg hi ho ⟨l, ls, rfl, w.hl, .inr (List.mem_of_getElem? ha)⟩ ⟨l, ls, rfl, w.h0, w.nn, w.sl, hl', w.out, w.nd, by rw [List.length_set]; exact w.len, fun j' b fs h1 h2 => ?_⟩ fun b hb => ?_
  · by_cases hj : j = j'
    · subst hj
      rw [ha] at h1
      cases h1
      rw [List.getElem?_set_self (List.getElem?_eq_some_iff.mp hd).1] at h2
      cases h2
      exact ⟨h0, ys, wa.nn, wa.ls, upd_same, rps_mut wa.hl wa.nn r⟩
    · rw [List.getElem?_set_ne hj] at h2
      obtain ⟨h3, zs, h4⟩ := w.at_ j' b fs h1 h2
      have hb : b ≠ a := by
        rintro rfl
        exact hj (nodup_inj w.nd ha h1)
      exact ⟨h3, zs, h4.nn, h4.ls, by rw [upd_ne hb]; exact h4.hl, rps_mut wa.hl wa.nn h4.r⟩
  · rcases ow2 hl' hb with e | e
    · exact ⟨l, ls, rfl, w.hl, .inl e⟩
    · exact ⟨l, ls, rfl, w.hl, .inr e⟩
/-- x[-1].append((y.pop(), tuple(z))) -/
def sAppP (i p c : Nat) : DSt C := ⟨fun _ => tDrop (tBM C.K "list" rAppend (tOp (rIxL C.K) (tVar i) (tUn (rU fun i => .int (-i)) (tC (.int 1)))) (tCons (Tn.tTupN (tCons (tBM0 C.K "list" rPop (tVar p)) (tCons (tCB (bTup C).r (tCons (tVar c) tNil)) tNil))) tNil)), fun ρ st => match ρ[i]?, ρ[p]?, ρ[c]? with
  | some (.own2 dss), some (.own ns), some (.own cs) => match dss[dss.length - 1]?, ns[ns.length - 1]? with
    | some ds, some x => if i ≠ p ∧ p ≠ c ∧ ds.length < 100000 then some (.nx, (ρ.set p (.own ns.dropLast)).set i (.own2 (dss.set (dss.length - 1) (ds ++ [.tuple [x, .tuple cs]]))), st) else none
    | _, _ => none
  | _, _, _ => none, fun {s q N0 H0 N H σ ρ ρ' st st' fl} v h W D k => by
  split at h
  · rename_i dss ns cs hi hp hc
    split at h
    · rename_i ds x hd hx
      split at h
      · rename_i hz
        cases h
        obtain ⟨l, ls, ho, w⟩ := v.E.own2 hi
        obtain ⟨lp, xp, hop, h0p, wp⟩ := v.E.own hp
        obtain ⟨lc, xc, hoc, h0c, wc⟩ := v.E.own hc
        have hlast : ls.length - 1 < ls.length := by
          have := (List.getElem?_eq_some_iff.mp hd).1
          rw [w.len]
          exact this
        obtain ⟨a, ha⟩ : ∃ a, ls[ls.length - 1]? = some a := ⟨_, List.getElem?_eq_getElem hlast⟩
        have hd' : dss[ls.length - 1]? = some ds := by rw [w.len]; exact hd
        obtain ⟨_, xs, wa⟩ := w.at_ _ _ ds ha hd'
        obtain ⟨u, hu, hr⟩ := wp.r.got hx
        refine ⟨_, ho, 1, rfl, l, ls.map V.ref, -1, .ref a, rfl, rfl, SqL.of w.hl, ?_, tyV_lst wa.hl, _, hop, tyV_lst wp.hl, lp, xp, u, rfl, rfl, wp.hl, by rw [wp.r.length]; exact hu, ?_⟩
        · unfold atI ixN
          rw [if_neg (by omega), List.length_map, if_pos (by omega)]
          show (ls.map V.ref)[(-1 + (ls.length : Int)).toNat]? = _
          rw [show (-1 + (ls.length : Int)).toNat = ls.length - 1 by omega, List.getElem?_map, ha]
          rfl
        · obtain ⟨v1, f1⟩ := v.mut hp hop h0p wp (rps_dropLast wp.r)
          have hi1 : (ρ.set p (.own ns.dropLast))[i]? = some (.own2 dss) := by rw [List.getElem?_set_ne (fun z => hz.1 z.symm)]; exact hi
          have hc1 : (ρ.set p (.own ns.dropLast))[c]? = some (.own cs) := by rw [List.getElem?_set_ne hz.2.1]; exact hc
          obtain ⟨lc1, xc1, hoc1, _, wc1⟩ := v1.E.own hc1
          rw [hoc] at hoc1
          cases hoc1
          obtain ⟨l1, ls1, ho1, w1⟩ := v1.E.own2 hi1
          rw [ho] at ho1
          cases ho1
          have hls : ls1 = ls := by
            have hne : l ≠ lp := by
              rintro rfl
              exact v.E.dis i p _ _ _ _ l hz.1 hi hp ho hop ⟨l, ls, rfl, w.hl, .inl rfl⟩ rfl
            have e1 := w1.hl
            rw [upd_ne hne, w.hl] at e1
            injection e1 with e1
            injection e1 with e1
            exact (refs_inj e1).symm
          subst hls
          refine ⟨_, hoc, lc, xc1, rfl, .inl ⟨SqL.of wc1.hl, fun t o ht hdo => ⟨sz_of (show 2 ≤ 100000 by omega), fun t2 o2 ht2 hdo2 => ?_⟩⟩⟩
          have X1 : Xt s N (upd H lp (.lst xp.dropLast)) N _ := Xt.new (o := .frz o (.tup xc1)) ht
          have v2 := v1.xt X1 (v1.I.new ht)
          have r2 : Rp C.K N (upd (upd H lp (.lst xp.dropLast)) t (.frz o (.tup xc1))) (.ref t) (.tuple cs) := tp_of v1.I ht hdo wc1.r
          have X2 : Xt s N (upd (upd H lp (.lst xp.dropLast)) t (.frz o (.tup xc1))) N _ := Xt.new (o := .frz o2 (.tup [u, .ref t])) ht2
          have v3 := v2.xt X2 (v2.I.new ht2)
          have ru : Rp C.K N (upd (upd H lp (.lst xp.dropLast)) t (.frz o (.tup xc1))) u x := v1.I.rp X1 (rp_mut wp.hl wp.nn hr)
          have r3 : Rp C.K N (upd (upd (upd H lp (.lst xp.dropLast)) t (.frz o (.tup xc1))) t2 (.frz o2 (.tup [u, .ref t]))) (.ref t2) (.tuple [x, .tuple cs]) := tp_of v2.I ht2 hdo2 (.cons ru (.cons r2 .nil))
          have w3 := (w1.xt v1.I X1).xt v2.I X2
          obtain ⟨_, xs3, wa3⟩ := w3.at_ _ _ ds ha hd'
          obtain ⟨v4, f4⟩ := v3.inner hi1 ho w3 ha hd' (wa3.r.app (.cons r3 .nil))
          rw [w.len] at v4
          refine ⟨_, xs3, .ref t2, rfl, rfl, wa3.hl, by rw [wa3.r.length]; exact sz_lt hz.2.2, ?_⟩
          exact k _ _ _ v4 (((f1.trans (X1.fx v1.I)).trans (X2.fx v2.I)).trans f4)
      · cases h
    · cases h
  · cases h⟩
end
/-- x[n], a list or a tuple -/
def fIxA : PyData → PyData → Option PyData
  | .list xs, .int i => atI xs i
  | .tuple xs, .int i => atI xs i
  | _, _ => none
def oIxA (C : Ct) : Op2 C .fz := ⟨rIx C.K, fIxA, fun I hx hy h Q k => by
  unfold fIxA at h
  split at h
  · obtain ⟨l, xs, rfl, _, h1, h2⟩ := pk_l hx I.ns
    obtain ⟨x, h3, h4⟩ := at_of h h2
    exact .inl ⟨l, xs, _, x, rfl, pk_i hy, SqL.of h1, h3, k _ _ _ .refl I h4⟩
  · obtain ⟨l, xs, rfl, h1, h2⟩ := pk_t hx
    obtain ⟨x, h3, h4⟩ := at_of h h2
    exact .inr (.inl ⟨l, xs, _, x, rfl, pk_i hy, h1, h3, k _ _ _ .refl I h4⟩)
  · cases h⟩
section
variable {C : Ct} {W : Wc}
theorem ts_sNew2 [Nw C] {i : Nat} : (sNew2 C i).ts W = tAsg (tLst (tCons (tLst tNil) tNil)) (gName i) := rfl
theorem te_dPk2 {i : Nat} {ix : DE C .pk} : (dPk2 i ix).te W = tOp (rIxL C.K) (tVar i) (ix.te W) := rfl
theorem ts_sPop2 {i j : Nat} : (sPop2 (C := C) j i).ts W = tAsg (tBM0 C.K "list" rPop (tVar i)) (gName j) := rfl
theorem ts_sPush2 [Nw C] {i : Nat} : (sPush2 C i).ts W = tDrop (tBM C.K "list" rAppend (tVar i) (tCons (tLst tNil) tNil)) := rfl
theorem ts_sAppP {i p c : Nat} : (sAppP (C := C) i p c).ts W = tDrop (tBM C.K "list" rAppend (tOp (rIxL C.K) (tVar i) (tUn (rU fun i => .int (-i)) (tC (.int 1)))) (tCons (Tn.tTupN (tCons (tBM0 C.K "list" rPop (tVar p)) (tCons (tCB (bTup C).r (tCons (tVar c) tNil)) tNil))) tNil)) := rfl
end
end De

/-! the evaluators, as equations -/
namespace De
open PySem PySem.Spec PyProof.Rows L2 Dx Dg
section
variable {C : Ct} {k : Kd} {ρ : Rho} {st : Ds}
@[simp] theorem ev_dVar {i : Nat} {x : PyData} (h : ρ[i]? = some (.d x)) : (dVar C i).ev ρ st = some (.ok x, st) := by
  simp only [dVar, h]
@[simp] theorem ev_dPk {i : Nat} {x : PyData} (h : ρ[i]? = some (.d x)) : (dPk C i).ev ρ st = some (.ok x, st) := by
  simp only [dPk, h]
@[simp] theorem ev_dPkO {i : Nat} {x : List PyData} (h : ρ[i]? = some (.own x)) : (dPk C i).ev ρ st = some (.ok (.list x), st) := by
  simp only [dPk, h]
@[simp] theorem ev_dKn {v : V} {x : PyData} {h : ∀ N H, Rp C.K N H v x} : (dKn C v x h).ev ρ st = some (.ok x, st) := rfl
@[simp] theorem ev_dLook {d : DE C .fz} : (dLook d).ev ρ st = d.ev ρ st := rfl
@[simp] theorem ev_dLookN {d : DE C .nw} : (dLookN d).ev ρ st = d.ev ρ st := rfl
@[simp] theorem ev_dFrz {d : DE C .nw} : (dFrz d).ev ρ st = d.ev ρ st := rfl
def retO (o : Option PyData) (st : Ds) : Re PyData := o.map fun z => (.ok z, st)
@[simp] theorem retO_some {z : PyData} : retO (some z) st = some (.ok z, st) := rfl
@[simp] theorem ev_dOp {o : Op2 C k} {a b : DE C .pk} : (dOp o a b).ev ρ st = bindR (a.ev ρ st) fun x st1 => bindR (b.ev ρ st1) fun y st2 => retO (o.f x y) st2 := rfl
@[simp] theorem ev_dB1 {o : B1 C k} {a : DE C .pk} : (dB1 o a).ev ρ st = bindR (a.ev ρ st) fun x st1 => retO (o.f x) st1 := rfl
@[simp] theorem ev_dRev [Nw C] {a : DE C .pk} : (dRev a).ev ρ st = bindR (a.ev ρ st) fun x st1 => retO (fRev x) st1 := rfl
@[simp] theorem ev_dIs {a : DE C .pk} {T : String} {h : isiTs.contains T = true} : (dIs a T h).ev ρ st = bindR (a.ev ρ st) fun x st1 => if isOb x = false then some (.ok (.bool (isiF T x)), st1) else none := rfl
@[simp] theorem ev_aNil : (aNil C).ev ρ st = some (.ok [], st) := rfl
@[simp] theorem ev_aD {a : DE C .fz} {t : DA C} : (aD a t).ev ρ st = bindR (a.ev ρ st) fun x st1 => bindR (t.ev ρ st1) fun as st2 => some (.ok (.d x :: as), st2) := rfl
@[simp] theorem ev_aSt {i : Nat} {t : DA C} (h : ρ[i]? = some .st) : (aSt i t).ev ρ st = bindR (t.ev ρ st) fun as st2 => some (.ok (.st :: as), st2) := by
  simp only [aSt, h]
@[simp] theorem ev_aScr {i : Nat} {t : DA C} (h : ρ[i]? = some .scr) : (aSt i t).ev ρ st = bindR (t.ev ρ st) fun as st2 => some (.ok (.scr :: as), st2) := by
  simp only [aSt, h]
def tupO (as : List En) (st : Ds) : Re PyData := match asD as with
  | some ds => if ds.length ≤ 100000 then some (.ok (.tuple ds), st) else none
  | none => none
def lstO (as : List En) (st : Ds) : Re PyData := match asD as with
  | some ds => if ds.length ≤ 100000 then some (.ok (.list ds), st) else none
  | none => none
theorem asD_d : ∀ ds : List PyData, asD (ds.map .d) = some ds
  | [] => rfl
  | x :: r => by show (asD (r.map .d)).map _ = _; rw [asD_d r]; rfl
@[simp] theorem ev_dTup {t : DA C} : (dTup t).ev ρ st = bindR (t.ev ρ st) fun as st1 => tupO as st1 := rfl
@[simp] theorem ev_dLst [Nw C] {t : DA C} : (dLst t).ev ρ st = bindR (t.ev ρ st) fun as st1 => lstO as st1 := rfl
@[simp] theorem ev_dAnd {a b : DE C .fz} : (dAnd a b).ev ρ st = bindR (a.ev ρ st) fun x st1 => match x with
  | .bool true => bindR (b.ev ρ st1) fun y st2 => match y with
    | .bool c => some (.ok (.bool c), st2)
    | _ => none
  | .bool false => some (.ok (.bool false), st1)
  | _ => none := rfl
@[simp] theorem ev_dOr {a b : DE C .fz} : (dOr a b).ev ρ st = bindR (a.ev ρ st) fun x st1 => match x with
  | .bool false => bindR (b.ev ρ st1) fun y st2 => match y with
    | .bool c => some (.ok (.bool c), st2)
    | _ => none
  | .bool true => some (.ok (.bool true), st1)
  | _ => none := rfl
@[simp] theorem ev_dNot {a : DE C .fz} : (dNot a).ev ρ st = bindR (a.ev ρ st) fun x st1 => match x with
  | .bool b => some (.ok (.bool (!b)), st1)
  | _ => none := rfl
@[simp] theorem ev_dNeg {a : DE C .pk} : (dNeg a).ev ρ st = bindR (a.ev ρ st) fun x st1 => match x with
  | .int b => some (.ok (.int (-b)), st1)
  | _ => none := rfl
@[simp] theorem ev_dCh {f g : Int → Int → Bool} {a b c : DE C .pk} : (dCh f g a b c).ev ρ st = bindR (a.ev ρ st) fun x st1 => bindR (b.ev ρ st1) fun y st2 => match x, y with
  | .int i, .int j => if f i j = true then bindR (c.ev ρ st2) fun z st3 => match z with
      | .int l => some (.ok (.bool (g j l)), st3)
      | _ => none
    else some (.ok (.bool false), st2)
  | _, _ => none := rfl
@[simp] theorem asB_ok {b : Bool} : asB (some (.ok (.bool b), st)) = some (.ok b, st) := rfl
@[simp] theorem ev_tVal {a : DE C .fz} : (tVal a).ev ρ st = asB (a.ev ρ st) := rfl
@[simp] theorem ev_tBl {a : DE C .fz} : (tBl a).ev ρ st = asB (a.ev ρ st) := rfl
@[simp] theorem ev_tYes : (tYes' C).ev ρ st = some (.ok true, st) := rfl
@[simp] theorem ev_tAn {a b : DT C} : (tAn a b).ev ρ st = bindR (a.ev ρ st) fun x st1 => if x = true then b.ev ρ st1 else some (.ok false, st1) := rfl
@[simp] theorem ev_tO {a b : DT C} : (tO a b).ev ρ st = bindR (a.ev ρ st) fun x st1 => if x = true then some (.ok true, st1) else b.ev ρ st1 := rfl
@[simp] theorem ev_tNo {a : DT C} : (tNo a).ev ρ st = bindR (a.ev ρ st) fun x st1 => some (.ok (!x), st1) := rfl
@[simp] theorem ev_dIf {t : DT C} {a b : DE C .fz} : (dIf t a b).ev ρ st = bindR (t.ev ρ st) fun x st1 => if x = true then a.ev ρ st1 else b.ev ρ st1 := rfl
@[simp] theorem ev_po0 : poE C none ρ st = some (.ok none, st) := rfl
@[simp] theorem ev_po1 {d : DE C .pk} : poE C (some d) ρ st = bindR (d.ev ρ st) fun x st1 => match x with
  | .int i => some (.ok (some i), st1)
  | _ => none := rfl
@[simp] theorem ev_dSl {o : Sl C k} {a : DE C .pk} {lo hi : Option (DE C .pk)} : (dSl o a lo hi).ev ρ st = bindR (a.ev ρ st) fun x st1 => bindR (poE C lo ρ st1) fun l st2 => bindR (poE C hi ρ st2) fun u st3 => retO (o.f x l u) st3 := rfl
def okO (m : Re PyData) : Re PyData := match m with
  | some (.ok x, st2) => some (.ok x, st2)
  | _ => none
@[simp] theorem okO_ok {x : PyData} : okO (some (.ok x, st)) = some (.ok x, st) := rfl
@[simp] theorem ev_dCall {R : Tab} {f : Nat} {t : DA C} : (dCall R f t).ev ρ st = bindR (t.ev ρ st) fun as st1 => okO (R f as st1) := rfl
@[simp] theorem ev_dCallX {R : Tab} {f : Nat} {t : DA C} : (dCallX R f t).ev ρ st = bindR (t.ev ρ st) fun as st1 => R f as st1 := rfl
@[simp] theorem ev_iL {a : DE C .fz} : (iL a).ev ρ st = bindR (a.ev ρ st) fun x st1 => match x with
  | .list ds => some (.ok ds, st1)
  | _ => none := rfl
@[simp] theorem ev_iLp {a : DE C .pk} : (iLp a).ev ρ st = bindR (a.ev ρ st) fun x st1 => match x with
  | .list ds => some (.ok ds, st1)
  | _ => none := rfl
@[simp] theorem ev_iT {a : DE C .pk} : (iT a).ev ρ st = bindR (a.ev ρ st) fun x st1 => match x with
  | .tuple ds => some (.ok ds, st1)
  | _ => none := rfl
@[simp] theorem ev_iS {a : DE C .pk} : (iS a).ev ρ st = bindR (a.ev ρ st) fun x st1 => match x with
  | .str x => some (.ok (fSigns x), st1)
  | _ => none := rfl
@[simp] theorem ev_iR1 {a : DE C .pk} : (iR1 a).ev ρ st = bindR (a.ev ρ st) fun x st1 => match x with
  | .int j => if j.natAbs < 4611686018427387904 then some (.ok (rngD 0 j.toNat), st1) else none
  | _ => none := rfl
@[simp] theorem ev_iR2 {a b : DE C .pk} : (iR2 a b).ev ρ st = bindR (a.ev ρ st) fun x st1 => bindR (b.ev ρ st1) fun y st2 => match x, y with
  | .int i, .int j => if i.natAbs < 4611686018427387904 ∧ j.natAbs < 4611686018427387904 then some (.ok (rngD i (j - i).toNat), st2) else none
  | _, _ => none := rfl
@[simp] theorem ev_gN {i : Nat} {x : PyData} : (gN C i).up ρ x = some (ρ.set i (.d x)) := rfl
@[simp] theorem ev_gT {is : List Nat} {xs : List PyData} : (gT C is).up ρ (.tuple xs) = setAll ρ is xs := rfl
@[simp] theorem ev_dLc [Nw C] {w : DI C k} {g : DG C} {t : DT C} {e : DE C .fz} : (dLc w g t e).ev ρ st = bindR (w.ev ρ st) fun ds st1 => if ds.length ≤ 100000 then (lcEv g t e ρ ds st1).map fun r => (.ok (.list r.1), r.2) else none := rfl
@[simp] theorem ev_dSt {i n : Nat} (h : ρ[i]? = some .st) : (dSt (C := C) i n).ev ρ st = (st.st[n]?).map fun v => (.ok (.int v), st) := by
  simp only [dSt, h]
@[simp] theorem ev_dScrL {b : DScr C} (h : b.c ρ = true) : (dScrL b).ev ρ st = some (.ok (.int st.scr.length), st) := by
  show (if b.c ρ = true then some ((.ok (.int st.scr.length) : Except Xc PyData), st) else none) = _; rw [if_pos h]
@[simp] theorem ev_dScrI {b : DScr C} {ix : DE C .pk} (h : b.c ρ = true) : (dScrI b ix).ev ρ st = bindR (ix.ev ρ st) fun x st1 => match x with
    | .int n => (atI st1.scr n).map fun v => (.ok (.int v), st1)
    | _ => none := by
  simp only [dScrI, if_pos h] <;> rfl
@[simp] theorem ev_scrV {i : Nat} : (scrV C i).c ρ = match ρ[i]? with | some .scr => true | _ => false := rfl
@[simp] theorem ev_scrS {hf : C.fam = true} {i : Nat} : (scrS C hf i).c ρ = match ρ[i]? with | some .st => true | _ => false := rfl
@[simp] theorem ev_dXf {x f : Str} {i : Nat} {pv : PyData → PyData} {hf : ∀ (N : Addr → Prop) (H : Hp) (u : V) (p : PyData), Rp C.K N H u p → ∃ w, (C.fs x u).lookup f = some w ∧ Rp C.K N H w (pv p)} {e : Xc} (h : ρ[i]? = some (.xc e)) (hx : e.x = x) : (dXf x f i pv hf).ev ρ st = some (.ok (pv e.p), st) := by
  simp only [dXf, h, hx]
  exact if_pos trivial
@[simp] theorem ev_dPk2 {i : Nat} {ix : DE C .pk} {dss : List (List PyData)} (h : ρ[i]? = some (.own2 dss)) : (dPk2 i ix).ev ρ st = bindR (ix.ev ρ st) fun x st1 => match x with
    | .int n => (atI dss n).map fun ds => (.ok (.list ds), st1)
    | _ => none := by
  show (match ρ[i]? with
  | some (.own2 dss) => bindR (ix.ev ρ st) fun x st1 => match x with
    | .int n => (atI dss n).map fun ds => ((.ok (.list ds) : Except Xc PyData), st1)
    | _ => none
  | _ => none) = _
  rw [h]
/-! statements -/
@[simp] theorem es_sSet {i : Nat} {a : DE C .fz} : (sSet i a).ev ρ st = bindS (a.ev ρ st) ρ fun x st1 => some (.nx, ρ.set i (.d x), st1) := rfl
@[simp] theorem es_sTgt {g : DG C} {a : DE C .fz} : (sTgt g a).ev ρ st = bindS (a.ev ρ st) ρ fun x st1 => (g.up ρ x).map fun ρ' => (.nx, ρ', st1) := rfl
@[simp] theorem es_sNew {i : Nat} {a : DE C .nw} : (sNew i a).ev ρ st = bindS (a.ev ρ st) ρ fun x st1 => match x with
  | .list ds => some (.nx, ρ.set i (.own ds), st1)
  | _ => none := rfl
@[simp] theorem es_sExpr {a : DE C .pk} : (sExpr a).ev ρ st = bindS (a.ev ρ st) ρ fun _ st1 => some (.nx, ρ, st1) := rfl
@[simp] theorem es_sRet {a : DE C .fz} : (sRet a).ev ρ st = bindS (a.ev ρ st) ρ fun x st1 => some (.rt x, ρ, st1) := rfl
@[simp] theorem es_sRetN : (sRetN C).ev ρ st = some (.rt .none, ρ, st) := rfl
@[simp] theorem es_sSkip : (sSkip C).ev ρ st = some (.nx, ρ, st) := rfl
@[simp] theorem es_sBrk : (sBrk C).ev ρ st = some (.bk, ρ, st) := rfl
@[simp] theorem es_sCnt : (sCnt C).ev ρ st = some (.ct, ρ, st) := rfl
@[simp] theorem es_sIf {t : DT C} {a b : DSt C} : (sIf t a b).ev ρ st = bindS (t.ev ρ st) ρ fun x st1 => if x = true then a.ev ρ st1 else b.ev ρ st1 := rfl
@[simp] theorem es_sSeq {a b : DSt C} : (sSeq a b).ev ρ st = seqS (a.ev ρ st) b.ev := rfl
@[simp] theorem es_sFor {w : DI C .fz} {g : DG C} {b : DSt C} : (sFor w g b).ev ρ st = bindS (w.ev ρ st) ρ fun ds st1 => forEv g b ds ρ st1 := rfl
@[simp] theorem es_sWhile {t : DT C} {b : DSt C} : (sWhile t b).ev ρ st = whileL t b ρ st := rfl
@[simp] theorem es_sFrz {i : Nat} {a : DSt C} : (sFrz i a).ev ρ st = a.ev (frzR ρ i) st := rfl
@[simp] theorem es_sRaise {x : Str} {a : DE C .fz} : (sRaise x a).ev ρ st = bindS (a.ev ρ st) ρ fun p st1 => some (.xc ⟨x, p⟩, ρ, st1) := rfl
@[simp] theorem es_sApp {i : Nat} {a : DE C .fz} {ds : List PyData} (h : ρ[i]? = some (.own ds)) : (sApp i a).ev ρ st = bindS (a.ev ρ st) ρ fun x st1 => if ds.length < 100000 then some (.nx, ρ.set i (.own (ds ++ [x])), st1) else none := by
  simp only [sApp, h]
@[simp] theorem es_sExt {i : Nat} {a : DE C .pk} {ds : List PyData} (h : ρ[i]? = some (.own ds)) : (sExt i a).ev ρ st = bindS (a.ev ρ st) ρ fun x st1 => match x with
    | .list es => if ds.length + es.length ≤ 100000 then some (.nx, ρ.set i (.own (ds ++ es)), st1) else none
    | _ => none := by
  show (match ρ[i]? with
  | some (.own ds) => bindS (a.ev ρ st) ρ fun x st1 => match x with
    | .list es => if ds.length + es.length ≤ 100000 then some (.nx, ρ.set i (.own (ds ++ es)), st1) else none
    | _ => none
  | _ => none) = _
  rw [h]
@[simp] theorem es_sPop {j i : Nat} {ds : List PyData} {x : PyData} (h : ρ[i]? = some (.own ds)) (hx : ds[ds.length - 1]? = some x) : (sPop (C := C) j i).ev ρ st = some (.nx, (ρ.set i (.own ds.dropLast)).set j (.d x), st) := by
  simp only [sPop, h, hx]
@[simp] theorem es_sNew2 [Nw C] {i : Nat} : (sNew2 C i).ev ρ st = some (.nx, ρ.set i (.own2 [[]]), st) := rfl
@[simp] theorem es_sPop2 {j i : Nat} {dss : List (List PyData)} {x : List PyData} (h : ρ[i]? = some (.own2 dss)) (hx : dss[dss.length - 1]? = some x) : (sPop2 (C := C) j i).ev ρ st = some (.nx, (ρ.set i (.own2 dss.dropLast)).set j (.own x), st) := by
  simp only [sPop2, h, hx]
@[simp] theorem es_sPush2 [Nw C] {i : Nat} {dss : List (List PyData)} (h : ρ[i]? = some (.own2 dss)) (hz : dss.length < 100000) : (sPush2 C i).ev ρ st = some (.nx, ρ.set i (.own2 (dss ++ [[]])), st) := by
  simp only [sPush2, h]
  exact if_pos hz
@[simp] theorem es_sAppP {i p c : Nat} {dss : List (List PyData)} {ns cs ds : List PyData} {x : PyData} (h1 : ρ[i]? = some (.own2 dss)) (h2 : ρ[p]? = some (.own ns)) (h3 : ρ[c]? = some (.own cs)) (h4 : dss[dss.length - 1]? = some ds) (h5 : ns[ns.length - 1]? = some x) (hz : i ≠ p ∧ p ≠ c ∧ ds.length < 100000) :
    (sAppP (C := C) i p c).ev ρ st = some (.nx, (ρ.set p (.own ns.dropLast)).set i (.own2 (dss.set (dss.length - 1) (ds ++ [.tuple [x, .tuple cs]]))), st) := by
  simp only [sAppP, h1, h2, h3, h4, h5]
  exact if_pos hz
@[simp] theorem es_sStSet {i n : Nat} {a : DE C .fz} (h : ρ[i]? = some .st) : (sStSet i n a).ev ρ st = bindS (a.ev ρ st) ρ fun x st1 => match x with
  | .int v => if n < st1.st.length then some (.nx, ρ, { st1 with st := st1.st.set n v }) else none
  | _ => none := by
  show bindS (a.ev ρ st) ρ (fun x st1 => match ρ[i]?, x with
  | some .st, .int v => if n < st1.st.length then some (.nx, ρ, { st1 with st := st1.st.set n v }) else none
  | _, _ => none) = _
  congr 1
  funext x st1
  rw [h]
  cases x <;> rfl
/-- a def that gives x -/
theorem callD_rt {n m : Nat} {b : DSt C} {as : List En} {st st' : Ds} {x : PyData} {ρ' : Rho} (hl : as.length = n) (h : b.ev (as ++ List.replicate m .no) st = some (.rt x, ρ', st')) : callD n m b as st = some (.ok x, st') := by
  unfold callD
  rw [if_pos hl, h]
theorem callD_xc {n m : Nat} {b : DSt C} {as : List En} {st st' : Ds} {x : Xc} {ρ' : Rho} (hl : as.length = n) (h : b.ev (as ++ List.replicate m .no) st = some (.xc x, ρ', st')) : callD n m b as st = some (.error x, st') := by
  unfold callD
  rw [if_pos hl, h]
/-- a comprehension without draws, all taken -/
theorem lcEv_map {g : DG C} {t : DT C} {e : DE C .fz} {f : PyData → PyData} : ∀ {xs : List PyData}, (∀ x, x ∈ xs → ∃ ρ', g.up (wipeR ρ g.sl) x = some ρ' ∧ t.ev ρ' st = some (.ok true, st) ∧ e.ev ρ' st = some (.ok (f x), st)) → lcEv g t e ρ xs st = some (xs.map f, st)
  | [], _ => rfl
  | x :: xs, h => by
    obtain ⟨ρ', h1, h2, h3⟩ := h x List.mem_cons_self
    have ih := lcEv_map (xs := xs) fun y hy => h y (List.mem_cons_of_mem _ hy)
    simp only [lcEv, h1, h2, h3, ih]
    rfl
@[simp] theorem forEv_nil {g : DG C} {b : DSt C} : forEv g b [] ρ st = some (.nx, ρ, st) := rfl
theorem forEv_con {g : DG C} {b : DSt C} {x : PyData} {xs : List PyData} {ρ' : Rho} (h : g.up ρ x = some ρ') : forEv g b (x :: xs) ρ st = loopK (b.ev ρ' st) (forEv g b xs) := by
  show (match g.up ρ x with
    | none => none
    | some ρ' => loopK (b.ev ρ' st) (forEv g b xs)) = _
  rw [h]
end
end De

/-! what the operators give -/
namespace De
open PySem PySem.Spec PyProof.Rows L2 Dx Dg
section
variable {C : Ct} {k : Kd} {ρ : Rho} {st : Ds} {a b : Int} {p q : Bool} {x y : Str} {xs ys : List PyData} {d e : PyData}
@[simp] theorem f_oAdd : (oAdd C).f (.int a) (.int b) = some (.int (a + b)) := rfl
@[simp] theorem f_oSub : (oSub C).f (.int a) (.int b) = some (.int (a - b)) := rfl
@[simp] theorem f_oMul : (oMul C).f (.int a) (.int b) = if (decide (a.natAbs < 18446744073709551616) || decide (b.natAbs < 18446744073709551616)) = true then some (.int (a * b)) else none := rfl
@[simp] theorem f_oDiv : (oDiv C).f (.int a) (.int b) = if decide (0 < b ∧ b.natAbs < 1073741824) = true then some (.int (a / b)) else none := rfl
@[simp] theorem f_oMod : (oMod C).f (.int a) (.int b) = if decide (0 < b) = true then some (.int (a % b)) else none := rfl
@[simp] theorem f_oPow : (oPow C).f (.int a) (.int b) = if decide (0 ≤ b ∧ b.natAbs ≤ 1000000 ∧ a.natAbs < 18446744073709551616) = true then some (.int (a ^ b.toNat)) else none := rfl
@[simp] theorem f_oLt : (oLt C).f (.int a) (.int b) = some (.bool (decide (a < b))) := rfl
@[simp] theorem f_oLe : (oLe C).f (.int a) (.int b) = some (.bool (decide (a ≤ b))) := rfl
@[simp] theorem f_oGt : (oGt C).f (.int a) (.int b) = some (.bool (decide (b < a))) := rfl
@[simp] theorem f_oGe : (oGe C).f (.int a) (.int b) = some (.bool (decide (b ≤ a))) := rfl
@[simp] theorem f_oAddS : (oAddS C).f (.str x) (.str y) = if decide (x.length + y.length ≤ 100000) = true then some (.str (x ++ y)) else none := rfl
@[simp] theorem f_oLtS : (oLtS C).f (.str x) (.str y) = some (.bool (decide (x.cps.toList < y.cps.toList))) := rfl
@[simp] theorem f_oSg : (oSg C).f d e = fSg false d e := rfl
@[simp] theorem f_oNSg : (oNSg C).f d e = fSg true d e := rfl
@[simp] theorem fSg_sg {neg : Bool} {c : Nat} : fSg neg (.str ⟨#[c]⟩) (.str y) = some (.bool (if neg then !decide (c ∈ y.cps.toList) else decide (c ∈ y.cps.toList))) := rfl
@[simp] theorem f_oEqI : (oEq C).f (.int a) (.int b) = some (.bool (a == b)) := rfl
@[simp] theorem f_oNeI : (oNe C).f (.int a) (.int b) = some (.bool (!(a == b))) := rfl
@[simp] theorem f_oEqB : (oEq C).f (.bool p) (.bool q) = some (.bool (p == q)) := rfl
@[simp] theorem f_oNeB : (oNe C).f (.bool p) (.bool q) = some (.bool (!(p == q))) := rfl
theorem f_oEqW (h1 : shW d = true) (h2 : shW e = true) : (oEq C).f d e = some (.bool (PyData.eqv d e)) := if_pos ⟨h1, h2⟩
theorem f_oNeW (h1 : shW d = true) (h2 : shW e = true) : (oNe C).f d e = some (.bool (!PyData.eqv d e)) := if_pos ⟨h1, h2⟩
theorem f_oEq (h1 : SeqAt.shaped d = true) (h2 : SeqAt.shaped e = true) : (oEq C).f d e = some (.bool (PyData.eqv d e)) := f_oEqW (shW_of h1) (shW_of h2)
theorem f_oNe (h1 : SeqAt.shaped d = true) (h2 : SeqAt.shaped e = true) : (oNe C).f d e = some (.bool (!PyData.eqv d e)) := f_oNeW (shW_of h1) (shW_of h2)
@[simp] theorem f_oIs : (oIs C).f d .none = some (.bool (isN d)) := rfl
@[simp] theorem f_oIsnt : (oIsnt C).f d .none = some (.bool (!isN d)) := rfl
@[simp] theorem f_oIn {neg : Bool} : (oIn C neg).f d e = fIn neg d e := rfl
@[simp] theorem f_oIxL : (oIxL C).f (.list xs) (.int a) = atI xs a := rfl
@[simp] theorem f_oIxT : (oIxT C).f (.tuple xs) (.int a) = atI xs a := rfl
@[simp] theorem f_oIxAl : (oIxA C).f (.list xs) (.int a) = atI xs a := rfl
@[simp] theorem f_oIxAt : (oIxA C).f (.tuple xs) (.int a) = atI xs a := rfl
@[simp] theorem f_oIxS : (oIxS C).f (.str x) (.int a) = if x.length ≤ 100000 then (atI x.cps.toList a).map fun c => .str ⟨#[c]⟩ else none := rfl
@[simp] theorem f_oCat [Nw C] : (oCat C).f (.list xs) (.list ys) = if xs.length + ys.length ≤ 100000 then some (.list (xs ++ ys)) else none := rfl
@[simp] theorem f_oCatT : (oCatT C).f (.tuple xs) (.tuple ys) = if xs.length + ys.length ≤ 100000 then some (.tuple (xs ++ ys)) else none := rfl
@[simp] theorem f_oRepS : (oRepS C).f (.str x) (.int a) = if 1 ≤ x.length ∧ x.length ≤ 1000 ∧ a.natAbs ≤ 1000000 ∧ x.length * a.toNat ≤ 100000 then some (.str (repS x a)) else none := rfl
@[simp] theorem f_lenL : (bLen C).f (.list xs) = some (.int xs.length) := rfl
@[simp] theorem f_lenT : (bLen C).f (.tuple xs) = some (.int xs.length) := rfl
@[simp] theorem f_lenS : (bLen C).f (.str x) = if x.length ≤ 100000 then some (.int x.length) else none := rfl
@[simp] theorem f_abs : (bAbs C).f (.int a) = some (.int (if a < 0 then -a else a)) := rfl
@[simp] theorem f_int : (bInt C).f (.int a) = some (.int a) := rfl
@[simp] theorem f_intB : (bInt C).f (.bool p) = some (.int (if p then 1 else 0)) := rfl
@[simp] theorem f_listL [Nw C] : (bList C).f (.list xs) = some (.list xs) := rfl
@[simp] theorem f_listT [Nw C] : (bList C).f (.tuple xs) = some (.list xs) := rfl
@[simp] theorem f_tupL : (bTup C).f (.list xs) = some (.tuple xs) := rfl
@[simp] theorem f_tupT : (bTup C).f (.tuple xs) = some (.tuple xs) := rfl
@[simp] theorem f_sum : (bSum C).f (.list xs) = (asInts xs).map fun ns => .int ns.sum := rfl
@[simp] theorem f_all : (bAll C).f (.list xs) = (asBools xs).map fun ns => .bool (ns.all id) := rfl
@[simp] theorem f_any : (bAny C).f (.list xs) = (asBools xs).map fun ns => .bool (ns.any id) := rfl
@[simp] theorem f_revL : fRev (.list xs) = some (.list xs.reverse) := rfl
@[simp] theorem f_revT : fRev (.tuple xs) = some (.list xs.reverse) := rfl
@[simp] theorem f_sL [Nw C] {lo hi : Option Int} : (sL C).f (.list xs) lo hi = some (.list (cut xs lo hi)) := rfl
@[simp] theorem f_sT {lo hi : Option Int} : (sT C).f (.tuple xs) lo hi = some (.tuple (cut xs lo hi)) := rfl
@[simp] theorem f_sS {lo hi : Option Int} : (sS C).f (.str x) lo hi = if x.length ≤ 100000 then some (.str (cutS x lo hi)) else none := rfl
@[simp] theorem isN_none : isN .none = true := rfl
@[simp] theorem isN_int : isN (.int a) = false := rfl
@[simp] theorem isN_tup : isN (.tuple xs) = false := rfl
theorem asInts_map : ∀ ns : List Int, asInts (ns.map .int) = some ns
  | [] => rfl
  | a :: r => by show (asInts (r.map .int)).map _ = _; rw [asInts_map r]; rfl
theorem asBools_map : ∀ ns : List Bool, asBools (ns.map .bool) = some ns
  | [] => rfl
  | a :: r => by show (asBools (r.map .bool)).map _ = _; rw [asBools_map r]; rfl
@[simp] theorem frzR_d {i : Nat} {x : PyData} (h : ρ[i]? = some (.d x)) : frzR ρ i = ρ := by unfold frzR; rw [h]
@[simp] theorem frzR_own {i : Nat} {x : List PyData} (h : ρ[i]? = some (.own x)) : frzR ρ i = ρ.set i (.d (.list x)) := by unfold frzR; rw [h]
@[simp] theorem atI_nat' {α : Type} {xs : List α} {n : Nat} {z : α} (h : xs[n]? = some z) : atI xs (n : Int) = some z := atI_nat h
@[simp] theorem atI_0 {α : Type} {z : α} {zs : List α} : atI (z :: zs) 0 = some z := atI_nat (n := 0) rfl
@[simp] theorem atI_1 {α : Type} {z w : α} {zs : List α} : atI (z :: w :: zs) 1 = some w := atI_nat (n := 1) rfl
@[simp] theorem atI_2 {α : Type} {z w u : α} {zs : List α} : atI (z :: w :: u :: zs) 2 = some u := atI_nat (n := 2) rfl
theorem atI_last {α : Type} {zs : List α} {z : α} : atI (zs ++ [z]) (-1) = some z := by
  unfold atI ixN
  rw [if_neg (by omega), List.length_append, if_pos (by simp; omega)]
  show (zs ++ [z])[(-1 + ((zs.length + 1 : Nat) : Int)).toNat]? = _
  rw [show (-1 + ((zs.length + 1 : Nat) : Int)).toNat = zs.length by omega]
  simp
@[simp] theorem tupO_1 : tupO [.d d] st = some (.ok (.tuple [d]), st) := rfl
@[simp] theorem tupO_2 : tupO [.d d, .d e] st = some (.ok (.tuple [d, e]), st) := rfl
@[simp] theorem tupO_3 {f : PyData} : tupO [.d d, .d e, .d f] st = some (.ok (.tuple [d, e, f]), st) := rfl
@[simp] theorem tupO_0 : tupO [] st = some (.ok (.tuple []), st) := rfl
@[simp] theorem lstO_0 : lstO [] st = some (.ok (.list []), st) := rfl
@[simp] theorem lstO_1 : lstO [.d d] st = some (.ok (.list [d]), st) := rfl
end
/-! kinds of data -/
@[simp] theorem isOb_n : isOb .none = false := rfl
@[simp] theorem isOb_b {x : Bool} : isOb (.bool x) = false := rfl
@[simp] theorem isOb_i {x : Int} : isOb (.int x) = false := rfl
@[simp] theorem isOb_s {x : Str} : isOb (.str x) = false := rfl
@[simp] theorem isOb_l {x : List PyData} : isOb (.list x) = false := rfl
@[simp] theorem isOb_t {x : List PyData} : isOb (.tuple x) = false := rfl
@[simp] theorem isi_str {x : Str} : isiF "str" (.str x) = true := rfl
@[simp] theorem isi_tup {x : List PyData} : isiF "tuple" (.tuple x) = true := rfl
@[simp] theorem isi_lst {x : List PyData} : isiF "list" (.list x) = true := rfl
@[simp] theorem isi_int {x : Int} : isiF "int" (.int x) = true := rfl
end De
namespace De
open PySem PySem.Spec PyProof.Rows L2 Dx Dg
section
variable {C : Ct} {ρ : Rho} {st : Ds}
/-- a comprehension without draws over things that stand for α, all taken -/
theorem lcEv_mapG {α : Type} {h f : α → PyData} {g : DG C} {t : DT C} {e : DE C .fz} : ∀ {xs : List α}, (∀ x, x ∈ xs → ∃ ρ', g.up (wipeR ρ g.sl) (h x) = some ρ' ∧ t.ev ρ' st = some (.ok true, st) ∧ e.ev ρ' st = some (.ok (f x), st)) → lcEv g t e ρ (xs.map h) st = some (xs.map f, st)
  | [], _ => rfl
  | x :: xs, hh => by
    obtain ⟨ρ', h1, h2, h3⟩ := hh x List.mem_cons_self
    have ih := lcEv_mapG (xs := xs) fun y hy => hh y (List.mem_cons_of_mem _ hy)
    simp only [List.map_cons, lcEv, h1, h2, h3, ih]
    rfl
end
section
variable {C : Ct} {ρ : Rho} {st st1 : Ds}
theorem ev_iR1n {a : DE C .pk} {n : Nat} (h : a.ev ρ st = some (.ok (.int n), st1)) (hn : n ≤ 100000) : (iR1 a).ev ρ st = some (.ok (rngD 0 n), st1) := by
  have h2 : (n : Int).natAbs < 4611686018427387904 := by omega
  rw [ev_iR1, h, bindR_ok]
  show (if (n : Int).natAbs < 4611686018427387904 then some ((Except.ok (rngD 0 (n : Int).toNat) : Except Xc (List PyData)), st1) else none) = _
  rw [if_pos h2, Int.toNat_natCast]
end
/-! == of data with itself -/
mutual
theorem eqv_refl : ∀ d : PyData, d.canLay0 = true → PyData.eqv d d = true
  | .none, _ => rfl
  | .bool b, _ => by simp [PyData.eqv]
  | .int i, _ => by simp [PyData.eqv]
  | .str x, _ => by simp [PyData.eqv]
  | .list xs, h => by
    simp only [PyData.canLay0] at h
    simp only [PyData.eqv]
    exact eqvAll_refl xs h
  | .tuple xs, h => by
    simp only [PyData.canLay0] at h
    simp only [PyData.eqv]
    exact eqvAll_refl xs h
  | .dict _, h => by simp [PyData.canLay0] at h
theorem eqvAll_refl : ∀ ds : List PyData, PyData.canLayAll0 ds = true → PyData.eqvAll ds ds = true
  | [], _ => rfl
  | d :: ds, h => by
    simp only [PyData.canLayAll0, Bool.and_eq_true] at h
    simp only [PyData.eqvAll, Bool.and_eq_true]
    exact ⟨eqv_refl d h.1, eqvAll_refl ds h.2⟩
end
theorem shaped_mk {d : PyData} (h1 : d.canLay0 = true) (h2 : d.depth ≤ 64) : SeqAt.shaped d = true := by
  unfold SeqAt.shaped
  rw [h1, decide_eq_true h2]
  rfl
end De

/-! Exceptions as values: made by a call, their fields, isinstance of a caught one with fields. -/
namespace ExQ
open PySem PySem.Spec PyProof.Rows L2 NdefX
/-- C(e) as a value -/
def tMkV (C : Addr) (fs : V → List (Str × V)) (te : TE) : TE := fun σ H Q => te σ H fun p H1 => ∀ a d, H1 a = none → H1 d = none → d ≠ a → Q (.ref a) (mkd H1 d a C (fs p))
section
variable {X : Cx} {x : Str} {C : Addr} {k : Nat} {fs : V → List (Str × V)} {e : Expr} {te : TE} {p pos : Pos}
theorem mkd_upd0 {H1 : Hp} {dx a C : Addr} {fs : List (Str × V)} (n : dx ≠ a) : mkd (upd H1 a (exo a C none)) dx a C fs = mkd H1 dx a C fs := by
  funext b
  unfold mkd
  by_cases ha : b = a
  · subst ha; rw [upd_same, upd_same]
  · rw [upd_ne ha, upd_ne ha]
    by_cases hd : b = dx
    · subst hd; rw [upd_same, upd_same]
    · rw [upd_ne hd, upd_ne hd, upd_ne ha]
theorem pe_mkv (R : Rs X.prog X.w X.K X.mg X.base x C k fs) (hr : Room (k + 1) X.A) (hg : Gl X x) (ha : PE X e te)
    (hdb : (x == ("__debug__" : Str)) = false := by decide) (he : starEach [e] X.env = (false, eval e X.env) :: starEach [] X.env := by rfl) :
    PE X (.Call (.Name x p) [e] [] pos) (tMkV C fs te) := by
  refine ⟨fun pins s σ H Q I h => ?_⟩
  obtain ⟨fI, fd, iC, tI, hb, F1⟩ := R.ini
  obtain ⟨nm, q, N, bs, bm, sn, sub, ab, col, dd, k0, k1, k2, k3, k5, hC, hbm⟩ := R.oex.cls
  have pa : PA X [e] (tCons (tUp te) tNil) := pa_cons (pe_up ha) pa_nil he
  refine wpAny_Call_Name_kw (ld_glob I hg R.mgC ?_ hdb)
  refine PySem.W.callWith_K (h₀ := X.base) I.ok.mod.kin R.oex.kC (thn (pa.run pos pins s σ H (fun vs H1 => ∃ v, vs = [v] ∧ ∀ a d, H1 a = none → H1 d = none → d ≠ a → Q (.ref a) (mkd H1 d a C (fs v))) I ⟨_, h, fun v H1 r => ⟨v, rfl, r⟩⟩) fun us s1 ⟨vs, H1, I1, r1, v, hv, q1⟩ => ⟨I1.kIn, ?_⟩) he (by rfl)
  subst hv
  show wpAny _ _ (call (.ref C) us) _ _ _
  obtain ⟨hp, g, dr, tk, os⟩ := s1
  have hsz : hp.objs.size ≤ hp.objs.size + 1 := Nat.le_succ _
  have hn : H1 (hp.objs.size + 1) = none := I1.hok.fresh hsz
  have kk : ∀ b o, hp.get? b = some o → ((hp.push (PySem.W.kdv_tup us)).push (PySem.HandSPX.excO C hp.objs.size)).get? b = some o := fun b o e => Heap.get?_push_of_some _ (Heap.get?_push_of_some _ e)
  have hget : ((hp.push (PySem.W.kdv_tup us)).push (PySem.HandSPX.excO C hp.objs.size)).get? (hp.objs.size + 1) = some (PySem.HandSPX.excO C hp.objs.size) := by heap_get
  have I2 : Inv X pins σ (upd H1 (hp.objs.size + 1) (exo (hp.objs.size + 1) C none)) ⟨(hp.push (PySem.W.kdv_tup us)).push (PySem.HandSPX.excO C hp.objs.size), g, dr, tk, os⟩ :=
    I1.laid (t' := tk) (a := hp.objs.size + 1) (o := exo (hp.objs.size + 1) C none) (h' := (hp.push (PySem.W.kdv_tup us)).push (PySem.HandSPX.excO C hp.objs.size)) kk hsz (exo_ok hget)
  have r2 : Vals (V.ref (hp.objs.size + 1) :: [v]) (Value.ref (hp.objs.size + 1) :: us) := .cons rfl r1
  have hq : (fun (vs : List V) (H : Hp) (Q : VK) (_ : XK) => ∃ (a : Addr) (p : V), vs = [.ref a, p] ∧ H a = some (exo a C none) ∧ ∀ dx, H dx = none → dx ≠ a → Q .non (mkd H dx a C (fs p)))
      (V.ref (hp.objs.size + 1) :: [v]) (upd H1 (hp.objs.size + 1) (exo (hp.objs.size + 1) C none)) (fun w H2 => w = .non ∧ Q (.ref (hp.objs.size + 1)) H2) (fun _ _ _ => False) := by
    refine ⟨_, v, rfl, upd_same, fun dx hdx ne => ⟨rfl, ?_⟩⟩
    rw [mkd_upd0 ne]
    rw [upd_ne ne] at hdx
    exact q1 _ dx hn hdx ne
  have hl : (Value.ref (hp.objs.size + 1) :: us).length = (["self", "place"] : List Str).length := by
    have e := r2.length
    exact e.symm
  have hus : us.length ≤ sizeLine := by
    rw [← Paired.length r1, sizeLine_eq]
    show 1 ≤ _
    omega
  have hbb := hb ⟨(hp.push (PySem.W.kdv_tup us)).push (PySem.HandSPX.excO C hp.objs.size), g, dr, tk, os⟩ (Value.ref (hp.objs.size + 1) :: us) I2.kIn (by rw [List.append_nil]; exact hl)
  rw [List.append_nil] at hbb
  refine wpAny_call (PySem.HandSPX.call_own F.excBase_ValueError (fun Y => PySem.HandSPX.refsVE_contains Y bm hbm) (I1.kIn _ _ hC) (PySem.W.looks_findIn I1.kIn iC) (fun self => PySem.W.bind_fn I1.kIn self tI) hus
    (codeAny_mono (F1.run _ X.stack _ _ ⟨Value.ref (hp.objs.size + 1) :: us, []⟩ (Value.ref (hp.objs.size + 1) :: us) _ (fun w H2 => w = .non ∧ Q (.ref (hp.objs.size + 1)) H2) (fun _ _ _ => False) (hr.make C us []) (I2.env0.make C us []) hbb r2 hq) fun r s' hq' => ?_))
  cases r with
  | error er => exact (pass0 (X := X)) pins σ _ _ er s' I2 hq'
  | ok fl =>
    cases fl with
    | ret u =>
      obtain ⟨v2, H2, os2, bare2, un2, hok2, rv, ev, q2⟩ := hq'
      subst ev
      obtain ⟨h2, g2, d2, t2, os'⟩ := s'
      refine ⟨rv, ?_⟩
      exact ⟨.ref (hp.objs.size + 1), H2, I2.call' (ch := []) os2 un2 hok2 bare2 (fun b z => absurd z (by simp)), rfl, q2⟩
    | next => exact False.elim hq'
    | brk => exact False.elim hq'
    | cont => exact False.elim hq'
/-- e.f, e an exception that is a value -/
def tXo (K : PySem.W.Frag) (f : Str) (te : TE) : TE := fun σ H Q => te σ H fun x H1 => ∃ (a C dx : Addr) (fs : List (Str × V)) (v : V), x = .ref a ∧ XfC K C ∧ PySem.W.findIn K (.ref C) f = some none ∧ H1 a = some (exo a C (some dx)) ∧ H1 dx = some (exd dx fs) ∧ fs.lookup f = some v ∧ Q v H1
theorem pe_xo {f : Str} (he : PE X e te) (hb : attributeBase e f X.env (eval e X.env) = eval e X.env := by rfl) : PE X (.Attribute e f pos) (tXo X.K f te) := by
  refine ⟨fun pins s σ H Q I h => ?_⟩
  refine attr_of hb (thn (he.run pins s σ H _ I h) fun u s1 hh => ?_)
  obtain ⟨x, H1, I1, rx, a, C, dx, fs, v, ex, T, hno, e1, e2, l, q⟩ := hh
  subst ex
  obtain rfl : u = Value.ref a := rx
  obtain ⟨t1, ha⟩ := exo_at I1.hok e1
  obtain ⟨mA, hns, hr⟩ := exd_at I1.hok e2
  obtain ⟨od, ho, hl⟩ := lookIn_ns hns
  obtain ⟨u, hu, ru⟩ := RelO.some_of (v := v) (o := mA f) (by rw [← l]; exact hr f)
  have J : PySem.W.InstAt s1.heap a ({ cls := .ref C, dict := some dx, data := .fields #[.ref t1, .none, .none, .none, .bool false, .none] } : Obj) C (some od) := ⟨ha, rfl, rfl, ho⟩
  exact HandSPX.exc_get I1.kIn J T.ga T.gg T.exC (PySem.W.findObj_own T.hdC hno rfl (by rw [hl, hu])) (handed_of ru) ⟨v, H1, I1.tok _, ru, q⟩
end
/-- isinstance(e, T) of a caught exception that has fields -/
def rIsX (K : PySem.W.Frag) (a : Addr) (cls : Value) (d : Option Addr) : List V → Hp → VK → Prop := fun xs H Q => ∃ (D dd : Addr) (fs : List (Str × V)) (T : String) (b : Bool), cls = .ref D ∧ d = some dd ∧ H dd = some (.xd fs) ∧ ExcC K D ∧ PySem.W.kitOne K (.ref D) (.type T) = some b ∧ xs = [.ref a, .ty T] ∧ Q (.bl b) H
theorem call_isX {X : Cx} {a : Addr} {oe : Obj} {cls : Value} {d : Option Addr} {pn : List (Addr × Obj)} (hz : Zc cls d oe) (hf : ∃ vs, oe.data = .fields vs) : CallR (X.suite a ((a, oe) :: pn)) (.builtin "isinstance") (rIsX X.K a cls d) := by
  intro pins s σ H xs us Q I r h
  obtain ⟨D, dd, fs, T, b, rfl, rfl, hd, C, e, rfl, q⟩ := h
  cases r with
  | cons rx rr =>
    cases rr with
    | cons rt rr =>
      cases rr
      cases rx
      cases rt
      obtain ⟨hget, _⟩ := I.pin (a, oe) (List.mem_append.mpr (.inl List.mem_cons_self))
      obtain ⟨vs, hv⟩ := hf
      have hx : ObjOk X.prog X.w H s.heap dd (.xd fs) := I.hok dd _ hd
      obtain ⟨mA, hns, hr⟩ := hx
      obtain ⟨od, ho, hl⟩ := lookIn_ns hns
      have J : PySem.W.InstAt s.heap a oe D (some od) := ⟨hget, hz.1, by unfold PySem.W.notCls; rw [hv] <;> rfl, by rw [hz.2]; exact ho⟩
      have hcl : (PySem.W.clsIn X.K D).isSome = true := by
        obtain ⟨cd, hc, _⟩ := PySem.W.any_some C.hd
        rw [hc]; rfl
      exact PySem.W.kia_one (PySem.W.kitx_exc hcl C.hg C.hk C.hs C.ha C.hn C.ht C.hm) I.kIn J e (fun z => nomatch z) fun tk => ⟨.bl b, H, I.kept (t' := tk) fun _ _ z => z, rfl, q⟩
end ExQ

namespace De
open PySem PySem.Spec PyProof.Rows L2 Dx Dg
/-! ### exceptions as values -/
def xlTa (C : Ct) (j : Nat) : List Str → TA
  | [] => tNil
  | c :: cs => tCons (ExQ.tMkV (C.ca c) (C.fs c) (tVar j)) (xlTa C j cs)
theorem te_xl0 {C : Ct} {j : Nat} : xlTa C j [] = tNil := rfl
theorem te_xl1 {C : Ct} {j : Nat} {c : Str} {cs : List Str} : xlTa C j (c :: cs) = tCons (ExQ.tMkV (C.ca c) (C.fs c) (tVar j)) (xlTa C j cs) := rfl
section
variable {C : Ct} {s : Sx} {q : Sq} {N0 N N1 N' : Addr → Prop} {H0 H H1 H' : Hp} {σ : L2.St} {ρ ρ' : Rho} {st st' st1 : Ds} {W : WX} {D : Ends} {fl : Fl}
theorem xlTa_ok {j : Nat} {p : PyData} {u : V} (hu : σ[j]? = some (some u)) : ∀ (cs : List Str) {N : Addr → Prop} {H : Hp} (Q : List V → Hp → Prop), Iv C s q N H st → Rp C.K N H u p →
    (∀ N' H' vs, Xt s N H N' H' → Iv C s q N' H' st → Paired (XvR C N' H') vs (cs.map fun c => ⟨c, p⟩) → Q vs H') → xlTa C j cs σ H Q
  | [], N, H, Q, I, _, k => k N H [] .refl I .nil
  | c :: cs, N, H, Q, I, r, k => by
    refine ⟨u, hu, fun a d ha hd ne => ?_⟩
    have hd' : (upd H d (exd d (C.fs c u))) a = none := by rw [upd_ne ne.symm]; exact ha
    have X1 : Xt s N H N (upd H d (exd d (C.fs c u))) := Xt.new hd
    have I1 := I.new (o := exd d (C.fs c u)) hd
    have X2 : Xt s N (upd H d (exd d (C.fs c u))) N (ExQ.mkd H d a (C.ca c) (C.fs c u)) := Xt.new hd'
    have I2 : Iv C s q N (ExQ.mkd H d a (C.ca c) (C.fs c u)) st := I1.new (o := exo a (C.ca c) (some d)) hd'
    have X3 := X1.trans X2
    have r2 := I.rp X3 r
    have hv : XvR C N (ExQ.mkd H d a (C.ca c) (C.fs c u)) (.ref a) ⟨c, p⟩ := ⟨a, d, u, rfl, ExQ.mkd_a, ExQ.mkd_dx ne, r2⟩
    exact xlTa_ok hu cs _ I2 r2 fun N' H' vs X4 I4 h4 => k N' H' _ (X3.trans X4) I4 (.cons (hv.xt I2 X4) h4)
/-- x = [A(p), B(p), ..] -/
def sXl (C : Ct) [Nw C] (i j : Nat) (cs : List Str) : DSt C := ⟨fun W => tAsg (tLst (xlTa C j cs)) (gName i), fun ρ st => match ρ[j]? with
  | some (.d p) => if cs.length ≤ 100000 then some (.nx, ρ.set i (.xl (cs.map fun c => ⟨c, p⟩)), st) else none
  | _ => none, fun {s q N0 H0 N H σ ρ ρ' st st' fl} v h W D k => by
  split at h
  · rename_i p hj
    split at h
    · rename_i hz
      cases h
      obtain ⟨o, ho, u, rfl, hr⟩ := v.E.get hj
      refine xlTa_ok ho cs _ v.I hr fun N1 H1 vs X1 I1 hp => ?_
      have hl : vs.length = cs.length := by rw [paired_len hp, List.length_map]
      refine ⟨by rw [hl]; exact sz_of hz, fun l hl0 => ?_⟩
      have X2 := X1.trans (Xt.new (o := .lst vs) hl0)
      have I2 := I1.new (o := .lst vs) hl0
      have ls : Nt s l := I1.nt hl0
      have hn : H l = none := X1.free hl0
      have X3 := Xt.frz hn X2
      have I3 := I2.frz upd_same ls
      have v3 := v.xt X3 I3
      have hp3 : Paired (XvR C (fzN N1 l) (upd H1 l (.lst vs))) vs (cs.map fun c => ⟨c, p⟩) := paired_imp (fun _ _ h => (h.xt I1 (Xt.new hl0)).fz) hp
      exact k _ _ _ ⟨v3.E.set ⟨l, vs, rfl, .inr rfl, upd_same, hp3⟩ (fun _ z => z.elim), v3.I, v3.X, fun _ => trivial, v3.hq⟩ (X3.fx v.I)
    · cases h
  · cases h⟩
theorem paired_app {α β : Type} {F : α → β → Prop} : ∀ {xs : List α} {ys : List β} {us : List α} {ws : List β}, Paired F xs ys → Paired F us ws → Paired F (xs ++ us) (ys ++ ws)
  | _, _, _, _, .nil, h => h
  | _, _, _, _, .cons h r, g => .cons h (paired_app r g)
/-- x = x + [A(p), B(p), ..] -/
def sXlA (C : Ct) [Nw C] (i j : Nat) (cs : List Str) : DSt C := ⟨fun W => tAsg (tOp rCat (tVar i) (tLst (xlTa C j cs))) (gName i), fun ρ st => match ρ[i]?, ρ[j]? with
  | some (.xl es), some (.d p) => if es.length + cs.length ≤ 100000 then some (.nx, ρ.set i (.xl (es ++ cs.map fun c => ⟨c, p⟩)), st) else none
  | _, _ => none, fun {s q N0 H0 N H σ ρ ρ' st st' fl} v h W D k => by
  split at h
  · rename_i es p hi hj
    split at h
    · rename_i hz
      cases h
      obtain ⟨o, ho, u, rfl, hr⟩ := v.E.get hj
      obtain ⟨o1, ho1, l0, vs0, rfl, hN0, hl0, hp0⟩ := v.E.get hi
      refine ⟨_, ho1, xlTa_ok ho cs _ v.I hr fun N1 H1 vs X1 I1 hp => ?_⟩
      have hl : vs.length = cs.length := by rw [paired_len hp, List.length_map]
      refine ⟨by rw [hl]; exact sz_of (by omega), fun l2 hl2 => ?_⟩
      have ls0 : Nt s l0 := ⟨by rintro rfl; exact v.I.ns hN0, v.I.nS Nw.h _⟩
      have hl1 : H1 l0 = some (.lst vs0) := X1.kp _ _ ls0 hl0
      have X2 := X1.trans (Xt.new (o := .lst vs) hl2)
      have I2 := I1.new (o := .lst vs) hl2
      have n02 : l0 ≠ l2 := by rintro rfl; rw [hl1] at hl2; cases hl2
      refine ⟨l0, l2, vs0, vs, rfl, rfl, by rw [upd_ne n02]; exact hl1, upd_same, by rw [paired_len hp0, hl]; exact sz_of hz, fun l hl3 => ?_⟩
      have X2b := X2.trans (Xt.new (o := .lst (vs0 ++ vs)) hl3)
      have I2b := I2.new (o := .lst (vs0 ++ vs)) hl3
      have ls : Nt s l := I2.nt hl3
      have hn : H l = none := X2.free hl3
      have X3 := Xt.frz hn X2b
      have I3 := I2b.frz upd_same ls
      have v3 := v.xt X3 I3
      have hp3 := paired_imp (fun _ _ h => ((h.xt I1 (Xt.new hl2)).xt I2 (Xt.new (o := .lst (vs0 ++ vs)) hl3)).fz (l := l)) hp
      have hp4 := paired_imp (fun _ _ h => (h.xt v.I X2b).fz (l := l)) hp0
      exact k _ _ _ ⟨v3.E.set ⟨l, vs0 ++ vs, rfl, .inr rfl, upd_same, paired_app hp4 hp3⟩ (fun _ z => z.elim), v3.I, v3.X, fun _ => trivial, v3.hq⟩ (X3.fx v.I)
    · cases h
  · cases h⟩
/-- x[k].f -/
def dXo (f : Str) (i : Nat) (ix : DE C .pk) (ok : Str → Bool) (pv : Str → PyData → PyData) (hf : ∀ x, ok x = true → XfC C.K (C.ca x) ∧ PySem.W.findIn C.K (.ref (C.ca x)) f = some none ∧
    ∀ (N : Addr → Prop) (H : Hp) (u : V) (p : PyData), Rp C.K N H u p → ∃ w, (C.fs x u).lookup f = some w ∧ Rp C.K N H w (pv x p)) : DE C .fz := ⟨fun W => ExQ.tXo C.K f (tOp (rIxL C.K) (tVar i) (ix.te W)), fun ρ st => match ρ[i]? with
  | some (.xl es) => bindR (ix.ev ρ st) fun x st1 => match x with
    | .int n => match atI es n with
      | some e => if ok e.x = true then some (.ok (pv e.x e.p), st1) else none
      | none => none
    | _ => none
  | _ => none, fun {s q H0 N σ H ρ st st' r} E I h W Q k => by
  split at h
  · rename_i es hi
    obtain ⟨o, ho, l, vs, rfl, hN, hl, hp⟩ := E.get hi
    refine ⟨_, ho, ?_⟩
    rcases bindR_inv h with ⟨e, h1, rfl⟩ | ⟨x, st1, h1, h2⟩
    · exact ix.ok E I h1 W _ k.err
    · refine ix.ok E I h1 W _ fun N1 H1 e1 I1 v r1 => ?_
      split at h2
      · rename_i n
        split at h2
        · rename_i e he
          split at h2
          · rename_i hok
            cases h2
            have hl1 : H1 l = some (.lst vs) := e1.kt (.inr hN) (by rintro rfl; exact I.ns hN) hl
            have hp1 : Paired (XvR C N1 H1) vs es := paired_imp (fun _ _ h => h.xt I e1) hp
            unfold atI at he
            cases hj : ixN es.length n with
            | none => rw [hj] at he; cases he
            | some j =>
              rw [hj] at he
              have he2 : es[j]? = some e := he
              have hjv : j < vs.length := by rw [paired_len hp1]; exact (List.getElem?_eq_some_iff.mp he2).1
              obtain ⟨a, d, u, hv, h3, h4, h5⟩ := paired_at hp1 (List.getElem?_eq_getElem hjv) he2
              obtain ⟨c1, c2, c3⟩ := hf _ hok
              obtain ⟨w, hw1, hw2⟩ := c3 N1 H1 u e.p h5
              refine ⟨l, vs, n, vs[j], rfl, pk_i r1, SqL.of hl1, ?_, a, _, d, _, w, hv, c1, c2, h3, h4, hw1, k _ _ e1 I1 _ hw2⟩
              unfold atI
              rw [paired_len hp1, hj]
              exact List.getElem?_eq_getElem hjv
          · cases h2
        · cases h2
      · cases h2
  · cases h⟩
/-- isinstance(e, T), e the caught exception -/
def dIsX (T : String) (i : Nat) (f : Str → Option Bool) (hf : ∀ x b, f x = some b → ExcC C.K (C.ca x) ∧ PySem.W.kitOne C.K (.ref (C.ca x)) (.type T) = some b) : DE C .fz := ⟨fun W => tCB (ExQ.rIsX C.K W.ax.a W.ax.cls W.ax.d) (tCons (tVar i) (tCons (tC (.ty T)) tNil)), fun ρ st => match ρ[i]? with
  | some (.xc e) => match f e.x with
    | some b => some (.ok (.bool b), st)
    | none => none
  | _ => none, fun {s q H0 N σ H ρ st st' r} E I h W Q k => by
  split at h
  · rename_i e hi
    split at h
    · rename_i b hb
      cases h
      obtain ⟨o, ho, rfl, h2, dd, h3, p, h4, h5⟩ := E.get hi
      obtain ⟨c1, c2⟩ := hf _ _ hb
      exact ⟨_, ho, _, dd, _, T, b, h2, h3, h5, c1, c2, rfl, k _ _ .refl I _ (.bl _)⟩
    · cases h
  · cases h⟩
/-- try: body, several except clauses without names, whose suites return -/
structure Hd (C : Ct) where
  x : Str
  sb : Str → Option Bool
  hsb : ∀ y b, sb y = some b → PySem.W.exmOne C.K (.ref (C.ca y)) (.ref (C.ca x)) = some b
  suite : DSt C
def hdsEv : List (Hd C) → Xc → Rho → Ds → Rs'
  | [], e, ρ, st => some (.xc e, ρ, st)
  | h :: hs, e, ρ, st => match h.sb e.x with
    | some true => match h.suite.ev ρ st with
      | some (.rt x, ρ2, st2) => some (.rt x, ρ2, st2)
      | _ => none
    | some false => hdsEv hs e ρ st
    | none => none
def hdT (W : Wc) (h : Hd C) : Value × (Addr → Value → Option Addr → TS) := (.ref (C.ca h.x), fun a cls d => h.suite.ts ⟨W.W, { W.ax with a := a, cls := cls, d := d }⟩)
def hdsT (W : Wc) : List (Hd C) → List (Value × (Addr → Value → Option Addr → TS))
  | [] => []
  | h :: hs => hdT W h :: hdsT W hs
theorem hds_ok {e : Xc} {ρ1 : Rho} {d : Addr} (v1 : Sv C s q N0 H0 N1 H1 σ ρ1 st1) (hx : XcR C N1 H1 d e) (hn : noXc ρ1 = true) (k : SOut C s q N0 H0 N1 H1 fl ρ' st' W D) : ∀ {hs : List (Hd C)}, hdsEv hs e ρ1 st1 = some (fl, ρ', st') →
    wMany C.K W D (hdsT ⟨W, q.ax⟩ hs) (.ref (C.ca e.x)) (some d) σ H1
  | [], h => by
    cases h
    exact k d σ N1 H1 v1 .refl hx
  | hd :: hs, h => by
    unfold hdsEv at h
    split at h
    · rename_i hb
      refine ⟨true, hd.hsb _ _ hb, fun _ a ha => ?_, fun z => by cases z⟩
      have v2 : Sv C s { q with ax := { q.ax with a := a, cls := .ref (C.ca e.x), d := some d } } N0 H0 N1 H1 σ ρ1 st1 := v1.ax (ax := { q.ax with a := a, cls := .ref (C.ca e.x), d := some d }) hn
      split at h
      · rename_i y ρ2 st2 hsu
        cases h
        refine hd.suite.ok v2 hsu W _ ?_
        exact fun u N2 H2 x2 i2 r2 => k u N2 H2 x2 i2.unax r2
      · cases h
    · rename_i hb
      exact ⟨false, hd.hsb _ _ hb, (fun z => by cases z), fun _ => hds_ok v1 hx hn k h⟩
    · cases h
def sTryM (hs : List (Hd C)) (body : DSt C) : DSt C := ⟨fun W => fun D σ H => body.ts ⟨wMany C.K W.W D (hdsT W hs), W.ax⟩ D σ H, fun ρ st => match body.ev ρ st with
    | some (.xc e, ρ1, st1) => if noXc ρ1 = true then hdsEv hs e ρ1 st1 else none
    | r => r, fun {s q N0 H0 N H σ ρ ρ' st st' fl} v h W D k => by
  split at h
  · rename_i e ρ1 st1 hb
    refine body.ok v hb _ D fun d σ1 N1 H1 v1 x1 hx => ?_
    split at h
    · rename_i hn
      exact hds_ok v1 hx hn (k.step x1) h
    · cases h
  · rename_i hne
    refine body.ok v h _ D ?_
    cases fl with
    | nx => exact k
    | bk => exact k
    | ct => exact k
    | rt x => exact k
    | xc e => exact absurd h (hne e ρ' st')⟩
end
section
variable {C : Ct} {W : Wc}
theorem ts_sXl [Nw C] {i j : Nat} {cs : List Str} : (sXl C i j cs).ts W = tAsg (tLst (xlTa C j cs)) (gName i) := rfl
theorem ts_sXlA [Nw C] {i j : Nat} {cs : List Str} : (sXlA C i j cs).ts W = tAsg (tOp rCat (tVar i) (tLst (xlTa C j cs))) (gName i) := rfl
theorem te_dXo {f : Str} {i : Nat} {ix : DE C .pk} {ok : Str → Bool} {pv : Str → PyData → PyData} {hf : ∀ x, ok x = true → XfC C.K (C.ca x) ∧ PySem.W.findIn C.K (.ref (C.ca x)) f = some none ∧ ∀ (N : Addr → Prop) (H : Hp) (u : V) (p : PyData), Rp C.K N H u p → ∃ w, (C.fs x u).lookup f = some w ∧ Rp C.K N H w (pv x p)} :
    (dXo f i ix ok pv hf).te W = ExQ.tXo C.K f (tOp (rIxL C.K) (tVar i) (ix.te W)) := rfl
theorem te_dIsX {T : String} {i : Nat} {f : Str → Option Bool} {hf : ∀ x b, f x = some b → ExcC C.K (C.ca x) ∧ PySem.W.kitOne C.K (.ref (C.ca x)) (.type T) = some b} : (dIsX T i f hf).te W = tCB (ExQ.rIsX C.K W.ax.a W.ax.cls W.ax.d) (tCons (tVar i) (tCons (tC (.ty T)) tNil)) := rfl
theorem ts_sTryM {hs : List (Hd C)} {body : DSt C} : (sTryM hs body).ts W = fun D σ H => body.ts ⟨wMany C.K W.W D (hdsT W hs), W.ax⟩ D σ H := rfl
end
section
variable {X : Cx} {body : List Stmt} {h₀ : ExceptHandler} {hds : List ExceptHandler} {pos : Pos} {C : Ct} {tb : DSt C} {W : WX} {ax : Ax}
theorem ps_sTryM {hs : List (Hd C)} (hK : X.K = C.K) (hst : X.stack = X.env :: X.outer) (hf : X.env.frame = some X.env.locals) (tk : Takes X W)
    (hb : ∀ (W' : WX) (pn : List (Addr × Obj)) (xe : Value → Shared → Prop), Takes (X.tr pn xe) W' → PassesOwn (model X.prog X.w) X.A X.env xe → PSs (X.tr pn xe) body (tb.ts ⟨W', ax⟩))
    (hh : HdsOk X (h₀ :: hds) (hdsT ⟨W, ax⟩ hs)) : PS X (.Try body (h₀ :: hds) [] [] pos) ((sTryM hs tb).ts ⟨W, ax⟩) := by
  have r := ps_try_many (pos := pos) (tb := fun W' => tb.ts ⟨W', ax⟩) hst hf tk hb hh
  rw [hK] at r
  exact r
end
end De

/-! lists of one's own of pairs (data, list of one's own) -/
namespace De
open PySem PySem.Spec PyProof.Rows L2 Dx Dg
section
variable {C : Ct} {s : Sx} {q : Sq} {N0 N N1 N' : Addr → Prop} {H0 H H1 H' : Hp} {σ : L2.St} {ρ ρ' : Rho} {st st' st1 : Ds} {W : WX} {D : Ends} {fl : Fl}
abbrev Tr3 := Addr × V × Addr
abbrev m1 (ts : List Tr3) : List V := ts.map fun t => V.ref t.1
theorem Ev.own3 {ps : List (PyData × List PyData)} (E : Ev C s q H0 N H σ ρ) {i : Nat} (hi : ρ[i]? = some (.own3 ps)) : ∃ l ts, σ[i]? = some (some (.ref l)) ∧ O3 C.K s H0 N H l ts ps := by
  obtain ⟨o, ho, l, ts, rfl, w⟩ := E.get hi
  exact ⟨l, ts, ho, w⟩
theorem O3.ow {l : Addr} {ts : List Tr3} {ps qs : List (PyData × List PyData)} (w : O3 C.K s H0 N H l ts ps) {a : Addr} (h : a = l ∨ ∃ t, t ∈ ts ∧ a = t.2.2) : Ow H (.own3 qs) (some (.ref l)) a := ⟨l, ts, rfl, w.hl, fun t ht => w.tup ht, h⟩
theorem O3.ow_inv {l a : Addr} {ts : List Tr3} {ps qs : List (PyData × List PyData)} (w : O3 C.K s H0 N H l ts ps) (h : Ow H (.own3 qs) (some (.ref l)) a) : a = l ∨ ∃ t, t ∈ ts ∧ a = t.2.2 := by
  obtain ⟨l', ts', h1, h2, h3, h4⟩ := h
  cases h1
  rw [w.hl] at h2
  injection h2 with h2
  injection h2 with h2
  cases trs_inj h2 (fun t ht => w.tup ht) h3
  exact h4
theorem O3.lst {l : Addr} {ts : List Tr3} {ps : List (PyData × List PyData)} (w : O3 C.K s H0 N H l ts ps) {t : Tr3} (ht : t ∈ ts) : ∃ xs, H t.2.2 = some (.lst xs) := by
  obtain ⟨j, hj, e⟩ := List.mem_iff_getElem.mp ht
  have hj2 : j < ps.length := by rw [← w.len]; exact hj
  obtain ⟨_, _, _, xs, h⟩ := w.at_ j t ps[j] (by rw [List.getElem?_eq_getElem hj, e]) (List.getElem?_eq_getElem hj2)
  exact ⟨xs, h.hl⟩
/-- slot i's own things are changed; new ones may come, which are no other slot's -/
theorem Ev.chgN (E : Ev C s q H0 N H σ ρ) {i : Nat} {n n' : En} {o : Option V} {l : Addr} {w : HO} (hi : ρ[i]? = some n) (ho : σ[i]? = some o) (hw : Ow H n o l)
    (h : EnR C s q H0 N (upd H l w) n' o) (hs : ∀ a, Ow (upd H l w) n' o a → Ow H n o a ∨ ∀ (j : Nat) (e : En) (u : Option V), j ≠ i → ρ[j]? = some e → σ[j]? = some u → ¬ Ow H e u a) : Ev C s q H0 N (upd H l w) σ (ρ.set i n') := by
  obtain ⟨⟨us, hl⟩, hn, _, _⟩ := (E.at_ i n o hi ho).ow hw
  have no : ∀ (j : Nat) (e : En) (u : Option V), j ≠ i → ρ[j]? = some e → σ[j]? = some u → ¬ Ow H e u l := fun j e u hj h1 h2 z => E.dis j i e n u o l hj h1 hi h2 ho z hw
  have bk : ∀ (j : Nat) (e : En) (u : Option V) (a : Addr), j ≠ i → ρ[j]? = some e → σ[j]? = some u → Ow (upd H l w) e u a → Ow H e u a := fun j e u a hj h1 h2 z =>
    (E.at_ j e u h1 h2).ow_back (fun b x y hb => by rw [upd_ne (by rintro rfl; exact no j e u hj h1 h2 y)]; exact hb) (fun b xs hb => by rw [upd_ne (by rintro rfl; rw [hl] at hb; cases hb)]; exact hb) z
  have self : ∀ {y : En}, (ρ.set i n')[i]? = some y → y = n' := fun {y} h => by
    rw [List.getElem?_set_self (List.getElem?_eq_some_iff.mp hi).1] at h
    cases h
    rfl
  refine ⟨by rw [List.length_set]; exact E.len, fun j e u h1 h2 => ?_, fun j1 j2 e1 e2 u1 u2 a hj h1 h2 h3 h4 w1 w2 => ?_⟩
  · by_cases hj : i = j
    · subst hj
      cases self h1
      rw [ho] at h2
      cases h2
      exact h
    · rw [List.getElem?_set_ne hj] at h1
      exact (E.at_ j e u h1 h2).chg hl hn (no j e u (fun z => hj z.symm) h1 h2)
  · by_cases k1 : i = j1
    · subst k1
      cases self h1
      rw [ho] at h3
      cases h3
      rw [List.getElem?_set_ne hj] at h2
      have b2 := bk j2 e2 u2 a (fun z => hj z.symm) h2 h4 w2
      rcases hs a w1 with z | z
      · exact E.dis i j2 n e2 o u2 a hj hi h2 ho h4 z b2
      · exact z j2 e2 u2 (fun z => hj z.symm) h2 h4 b2
    · rw [List.getElem?_set_ne k1] at h1
      by_cases k2 : i = j2
      · subst k2
        cases self h2
        rw [ho] at h4
        cases h4
        have b1 := bk j1 e1 u1 a hj h1 h3 w1
        rcases hs a w2 with z | z
        · exact E.dis j1 i e1 n u1 o a hj h1 hi h3 ho b1 z
        · exact z j1 e1 u1 hj h1 h3 b1
      · rw [List.getElem?_set_ne k2] at h2
        exact E.dis j1 j2 e1 e2 u1 u2 a hj h1 h2 h3 h4 (bk j1 e1 u1 a (fun z => k1 z.symm) h1 h3 w1) (bk j2 e2 u2 a (fun z => k2 z.symm) h2 h4 w2)
theorem Sv.chgN (v : Sv C s q N0 H0 N H σ ρ st) {i : Nat} {n n' : En} {o : Option V} {l : Addr} {ys : List V} (hi : ρ[i]? = some n) (ho : σ[i]? = some o) (hw : Ow H n o l) (h : EnR C s q H0 N (upd H l (.lst ys)) n' o)
    (hs : ∀ a, Ow (upd H l (.lst ys)) n' o a → Ow H n o a ∨ ∀ (j : Nat) (e : En) (u : Option V), j ≠ i → ρ[j]? = some e → σ[j]? = some u → ¬ Ow H e u a) :
    Sv C s q N0 H0 N (upd H l (.lst ys)) σ (ρ.set i n') st ∧ Fx N H N (upd H l (.lst ys)) := by
  obtain ⟨⟨us, hl⟩, hn, ls, h0⟩ := (v.E.at_ i n o hi ho).ow hw
  have X : Xt s N0 H0 N (upd H l (.lst ys)) := by
    exact v.X.updO h0
  refine ⟨⟨v.E.chgN hi ho hw h hs, ⟨fun a n => ?_, v.I.ns, ?_, v.hq.keep X.kp0, v.I.sc, v.I.nS, v.I.sS, fun m a h => v.I.fS m a (upd_none h), v.I.pn, tabs_upd v.I.tb hl rfl⟩, X, fun _ => trivial, v.hq⟩, Fx.mut hl hn⟩
  · rw [upd_ne (by rintro rfl; exact hn n)]
    exact v.I.na a n
  · exact v.I.hs.updO hl hn ls
/-- nobody owns what is new -/
theorem Ev.newNo (E : Ev C s q H0 N H σ ρ) (I : Iv C s q N H st) (e : Xt s N H N' H') {a : Addr} (ha : H a = none) {j : Nat} {n : En} {u : Option V} (h1 : ρ[j]? = some n) (h2 : σ[j]? = some u) : ¬ Ow H' n u a := fun z => by
  have r := E.at_ j n u h1 h2
  obtain ⟨⟨us, hu⟩, _⟩ := r.ow (r.ow_back (r.okp e) (e.fx I).tp z)
  rw [ha] at hu
  cases hu
theorem O3.push {K : PySem.W.Frag} {l t c : Addr} {u : V} {x : PyData} {ts : List Tr3} {ps : List (PyData × List PyData)} (w : O3 K s H0 N H l ts ps) (hc : H c = some (.lst [])) (ht : H t = some (.tup [u, .ref c])) (hcl : c ≠ l) (hcn : ∀ t, t ∈ ts → t.2.2 ≠ c)
    (nn : ¬ N c) (cs : Nt s c) (h0 : H0 c = none) (r : Rp K N H u x) : O3 K s H0 N (upd H l (.lst (m1 (ts ++ [(t, u, c)])))) l (ts ++ [(t, u, c)]) (ps ++ [(x, [])]) := by
  refine ⟨w.h0, w.nn, w.sl, upd_same, fun y hy => ?_, ?_, by rw [List.length_append, List.length_append, w.len]; rfl, fun j y p h1 h2 => ?_⟩
  · rcases List.mem_append.mp hy with hy | hy
    · exact w.out y hy
    · cases List.mem_singleton.mp hy
      exact hcl
  · rw [List.map_append]
    refine List.nodup_append.mpr ⟨w.nd, by simp, fun a ha b hb => ?_⟩
    obtain ⟨y, hy, rfl⟩ := List.mem_map.mp ha
    cases List.mem_singleton.mp hb
    exact hcn y hy
  · by_cases hj : j < ts.length
    · rw [List.getElem?_append_left hj] at h1
      rw [List.getElem?_append_left (by rw [← w.len]; exact hj)] at h2
      obtain ⟨h3, h4, h5, xs, h6⟩ := w.at_ j y p h1 h2
      refine ⟨by rw [upd_ne (by rintro rfl; rw [w.hl] at h3; cases h3)]; exact h3, rp_mut w.hl w.nn h4, h5, xs, h6.nn, h6.ls, by rw [upd_ne (w.out y (List.mem_of_getElem? h1))]; exact h6.hl, rps_mut w.hl w.nn h6.r⟩
    · rw [List.getElem?_append_right (Nat.le_of_not_lt hj)] at h1
      rw [List.getElem?_append_right (by rw [← w.len]; exact Nat.le_of_not_lt hj), ← w.len] at h2
      cases hjj : j - ts.length with
      | zero =>
        rw [hjj] at h1 h2
        cases h1
        cases h2
        exact ⟨by rw [upd_ne (by rintro rfl; rw [w.hl] at ht; cases ht)]; exact ht, rp_mut w.hl w.nn r, h0, [], nn, cs, by rw [upd_ne hcl]; exact hc, .nil⟩
      | succ m =>
        rw [hjj] at h1
        simp at h1
/-- the reading of (a, []) -/
def tPr (te : TE) : TE := tTup (tCons te (tCons (tLst tNil) tNil))
/-- x.append((a, [])) -/
def s3Push [Nw C] (i : Nat) (a : DE C .fz) : DSt C := ⟨fun W => tDrop (tBM C.K "list" rAppend (tVar i) (tCons (tPr (a.te W)) tNil)), fun ρ st => match ρ[i]? with
  | some (.own3 ps) => bindS (a.ev ρ st) ρ fun x st1 => if ps.length < 100000 then some (.nx, ρ.set i (.own3 (ps ++ [(x, [])])), st1) else none
  | _ => none, fun {s q N0 H0 N H σ ρ ρ' st st' fl} v h W D k => by
  split at h
  · rename_i ps hi
    obtain ⟨l, ts, ho, w⟩ := v.E.own3 hi
    refine ⟨_, ho, tyV_lst w.hl, ?_⟩
    rcases bindS_inv h with ⟨e, h1, rfl, rfl⟩ | ⟨x, st1, h1, h2⟩
    · exact a.ok v.E v.I h1 W _ (SOut.out v k)
    · refine a.ok v.E v.I h1 W _ fun N1 H1 e1 I1 u r1 => ?_
      split at h2
      · rename_i hz
        cases h2
        refine ⟨sz_of (show 0 ≤ 100000 by omega), fun c hc => ⟨sz_of (show 2 ≤ 100000 by omega), fun t ht => ?_⟩⟩
        have v1 := v.xt e1 I1
        have X1 : Xt s N1 H1 N1 (upd H1 c (.lst [])) := Xt.new hc
        have I2 := I1.new (o := .lst []) hc
        have X2 : Xt s N1 (upd H1 c (.lst [])) N1 (upd (upd H1 c (.lst [])) t (.tup [u, .ref c])) := Xt.new ht
        have I3 := I2.new (o := .tup [u, .ref c]) ht
        have X3 := X1.trans X2
        have v3 := v1.xt X3 I3
        have hct : c ≠ t := by rintro rfl; rw [upd_same] at ht; cases ht
        have hc3 : (upd (upd H1 c (.lst [])) t (.tup [u, .ref c])) c = some (.lst []) := by rw [upd_ne hct]; exact upd_same
        have w1 := w.xt v.I e1
        have w3 := w1.xt I1 X3
        have hcl : c ≠ l := by rintro rfl; rw [w1.hl] at hc; cases hc
        have hcn : ∀ t, t ∈ ts → t.2.2 ≠ c := fun y hy => by
          rintro rfl
          obtain ⟨xs, hx⟩ := w1.lst hy
          rw [hx] at hc
          cases hc
        have np : ¬ N1 c := fun z => I1.na c z hc
        have cs : Nt s c := I1.nt hc
        have o3 := w3.push hc3 upd_same hcl hcn np cs (v1.X.free hc) (I1.rp X3 r1)
        refine ⟨l, m1 ts, .ref t, rfl, rfl, w3.hl, by rw [List.length_map, w.len]; exact sz_lt hz, ?_⟩
        have em : m1 ts ++ [.ref t] = m1 (ts ++ [(t, u, c)]) := by rw [m1, m1, List.map_append]; rfl
        rw [em]
        obtain ⟨v4, f4⟩ := v3.chgN (n' := .own3 (ps ++ [(x, [])])) hi ho (w3.ow (.inl rfl)) ⟨l, _, rfl, o3⟩ fun a ha => by
          rcases o3.ow_inv ha with rfl | ⟨y, hy, rfl⟩
          · exact .inl (w3.ow (.inl rfl))
          · rcases List.mem_append.mp hy with hy | hy
            · exact .inl (w3.ow (.inr ⟨y, hy, rfl⟩))
            · cases List.mem_singleton.mp hy
              exact .inr fun j e u _ h1 h2 => v1.E.newNo I1 X3 hc h1 h2
        exact k _ _ _ v4 (((e1.trans X3).fx v.I).trans f4)
      · cases h2
  · cases h⟩
/-- x = [] -/
def s3New0 (C : Ct) [Nw C] (i : Nat) : DSt C := ⟨fun _ => tAsg (tLst tNil) (gName i), fun ρ st => some (.nx, ρ.set i (.own3 []), st), fun {s q N0 H0 N H σ ρ ρ' st st' fl} v h W D k => by
  cases h
  refine ⟨sz_of (show 0 ≤ 100000 by omega), fun l hl => ?_⟩
  have X1 : Xt s N H N (upd H l (.lst [])) := Xt.new hl
  have v1 := v.xt X1 (v.I.new (o := .lst []) hl)
  have o3 : O3 C.K s H0 N (upd H l (.lst [])) l [] [] := ⟨v.X.free hl, fun z => v.I.na l z hl, (v.I.nt hl), upd_same, fun t ht => (by simp at ht), by simp, rfl, fun j t p h1 h2 => by simp at h1⟩
  refine k _ _ _ ⟨v1.E.set ⟨l, [], rfl, o3⟩ fun a w j e u hj h1 h2 w2 => ?_, v1.I, v1.X, fun _ => trivial, v1.hq⟩ (X1.fx v.I)
  rcases o3.ow_inv w with rfl | ⟨t, ht, _⟩
  · exact v.E.newNo v.I X1 hl h1 h2 w2
  · simp at ht⟩
/-- x = [(a, [])] -/
def s3New1 [Nw C] (i : Nat) (a : DE C .fz) : DSt C := ⟨fun W => tAsg (tLst (tCons (tPr (a.te W)) tNil)) (gName i), fun ρ st => bindS (a.ev ρ st) ρ fun x st1 => some (.nx, ρ.set i (.own3 [(x, [])]), st1), fun {s q N0 H0 N H σ ρ ρ' st st' fl} v h W D k => by
  rcases bindS_inv h with ⟨e, h1, rfl, rfl⟩ | ⟨x, st1, h1, h2⟩
  · exact a.ok v.E v.I h1 W _ (SOut.out v k)
  · refine a.ok v.E v.I h1 W _ fun N1 H1 e1 I1 u r1 => ?_
    cases h2
    refine ⟨sz_of (show 0 ≤ 100000 by omega), fun c hc => ⟨sz_of (show 2 ≤ 100000 by omega), fun t ht => ⟨sz_of (show 1 ≤ 100000 by omega), fun l hl => ?_⟩⟩⟩
    have v1 := v.xt e1 I1
    have X1 : Xt s N1 H1 N1 (upd H1 c (.lst [])) := Xt.new hc
    have I2 := I1.new (o := .lst []) hc
    have X2 : Xt s N1 (upd H1 c (.lst [])) N1 (upd (upd H1 c (.lst [])) t (.tup [u, .ref c])) := Xt.new ht
    have I3 := I2.new (o := .tup [u, .ref c]) ht
    have X3 := X1.trans X2
    have X4 : Xt s N1 (upd (upd H1 c (.lst [])) t (.tup [u, .ref c])) N1 _ := Xt.new (o := .lst [.ref t]) hl
    have I4 := I3.new (o := .lst [.ref t]) hl
    have X5 := X3.trans X4
    have v3 := v1.xt X5 I4
    have hct : c ≠ t := by rintro rfl; rw [upd_same] at ht; cases ht
    have hc3 : (upd (upd H1 c (.lst [])) t (.tup [u, .ref c])) c = some (.lst []) := by rw [upd_ne hct]; exact upd_same
    have hcl : c ≠ l := by rintro rfl; rw [hc3] at hl; cases hl
    have htl : t ≠ l := by rintro rfl; rw [upd_same] at hl; cases hl
    have np : ¬ N1 c := fun z => I1.na c z hc
    have cs : Nt s c := I1.nt hc
    have hl1 : H1 l = none := X3.free hl
    have o3 : O3 C.K s H0 N1 (upd (upd (upd H1 c (.lst [])) t (.tup [u, .ref c])) l (.lst [.ref t])) l [(t, u, c)] [(x, [])] := by
      refine ⟨v1.X.free hl1, fun z => I1.na l z hl1, (I1.nt hl1), upd_same, fun y hy => ?_, by simp, rfl, fun j y p h1 h2 => ?_⟩
      · cases List.mem_singleton.mp hy
        exact hcl
      · match j, h1, h2 with
        | 0, h1, h2 =>
          cases h1
          cases h2
          exact ⟨by rw [upd_ne htl]; exact upd_same, I1.rp X5 r1, v1.X.free hc, [], np, cs, by rw [upd_ne hcl]; exact hc3, .nil⟩
        | j + 1, h1, h2 => simp at h1
    refine k _ _ _ ⟨v3.E.set ⟨l, _, rfl, o3⟩ fun a w j e u hj h1 h2 w2 => ?_, v3.I, v3.X, fun _ => trivial, v3.hq⟩ ((e1.trans X5).fx v.I)
    rcases o3.ow_inv w with rfl | ⟨y, hy, rfl⟩
    · exact v1.E.newNo I1 X5 hl1 h1 h2 w2
    · cases List.mem_singleton.mp hy
      exact v1.E.newNo I1 X5 hc h1 h2 w2⟩
/-- the last pair -/
theorem O3.last {l : Addr} {ts : List Tr3} {ps : List (PyData × List PyData)} {p : PyData × List PyData} (w : O3 C.K s H0 N H l ts ps) (hp : ps[ps.length - 1]? = some p) : ∃ t xs, ts[ts.length - 1]? = some t ∧ ps.length = ts.length ∧ t ∈ ts ∧ H t.1 = some (.tup [t.2.1, .ref t.2.2]) ∧ Rp C.K N H t.2.1 p.1 ∧ H0 t.2.2 = none ∧ Lw C.K s N H t.2.2 xs p.2 := by
  have hlt : ts.length - 1 < ts.length := by
    have := (List.getElem?_eq_some_iff.mp hp).1
    rw [w.len]
    exact this
  have e1 : ts[ts.length - 1]? = some ts[ts.length - 1] := List.getElem?_eq_getElem hlt
  obtain ⟨h3, h4, h5, xs, h6⟩ := w.at_ _ _ p e1 (by rw [w.len]; exact hp)
  exact ⟨_, xs, e1, w.len.symm, List.mem_of_getElem? e1, h3, h4, h5, h6⟩
theorem O3.atm {l : Addr} {ts : List Tr3} {ps : List (PyData × List PyData)} (w : O3 C.K s H0 N H l ts ps) {t : Tr3} (ht : ts[ts.length - 1]? = some t) : atI (m1 ts) (-1) = some (.ref t.1) := by
  have hlt := (List.getElem?_eq_some_iff.mp ht).1
  unfold atI ixN
  rw [if_neg (by omega), List.length_map, if_pos (by omega)]
  show (m1 ts)[(-1 + (ts.length : Int)).toNat]? = _
  rw [show (-1 + (ts.length : Int)).toNat = ts.length - 1 by omega, List.getElem?_map, ht]
  rfl
theorem nd_last {ts : List Tr3} {t : Tr3} {j : Nat} (h : (ts.map fun t => t.2.2).Nodup) (ht : ts[ts.length - 1]? = some t) {y : Tr3} (hy : ts[j]? = some y) (e : y.2.2 = t.2.2) : j = ts.length - 1 :=
  nodup_inj h (by rw [List.getElem?_map, hy]; show some y.2.2 = _; rw [e]) (by rw [List.getElem?_map, ht]; rfl)
/-- the last inner list is changed -/
theorem Sv.app3 (v : Sv C s q N0 H0 N H σ ρ st) {i : Nat} {l : Addr} {ts : List Tr3} {ps : List (PyData × List PyData)} {p : PyData × List PyData} {t : Tr3} {ys : List V} {es : List PyData} (hi : ρ[i]? = some (.own3 ps)) (ho : σ[i]? = some (some (.ref l))) (w : O3 C.K s H0 N H l ts ps)
    (hp : ps[ps.length - 1]? = some p) (ht : ts[ts.length - 1]? = some t) (r : RpAll C.K N H ys es) : Sv C s q N0 H0 N (upd H t.2.2 (.lst ys)) σ (ρ.set i (.own3 (ps.set (ps.length - 1) (p.1, es)))) st ∧ Fx N H N (upd H t.2.2 (.lst ys)) := by
  have hm := List.mem_of_getElem? ht
  have hlt := (List.getElem?_eq_some_iff.mp ht).1
  have hne : l ≠ t.2.2 := fun z => w.out t hm z.symm
  obtain ⟨xs0, hl0⟩ := w.lst hm
  have o3 : O3 C.K s H0 N (upd H t.2.2 (.lst ys)) l ts (ps.set (ps.length - 1) (p.1, es)) := by
    refine ⟨w.h0, w.nn, w.sl, by rw [upd_ne hne]; exact w.hl, w.out, w.nd, by rw [List.length_set]; exact w.len, fun j y z h1 h2 => ?_⟩
    by_cases hj : ps.length - 1 = j
    · subst hj
      rw [List.getElem?_set_self (by rw [← w.len]; rw [← w.len] at *; omega)] at h2
      cases h2
      rw [← w.len, ht] at h1
      cases h1
      obtain ⟨h3, h4, h5, xs, h6⟩ := w.at_ _ t p ht (by rw [w.len]; exact hp)
      have nn := h6.nn
      exact ⟨by rw [upd_ne (by rintro e; rw [e, hl0] at h3; cases h3)]; exact h3, rp_mut hl0 nn h4, h5, ys, nn, h6.ls, upd_same, rps_mut hl0 nn r⟩
    · rw [List.getElem?_set_ne hj] at h2
      obtain ⟨h3, h4, h5, xs, h6⟩ := w.at_ j y z h1 h2
      obtain ⟨_, _, _, xs', h6'⟩ := w.at_ _ t p ht (by rw [w.len]; exact hp)
      have hyt : y.2.2 ≠ t.2.2 := fun e => hj (by rw [← w.len]; exact (nd_last w.nd ht h1 e).symm)
      exact ⟨by rw [upd_ne (by rintro e; rw [e, hl0] at h3; cases h3)]; exact h3, rp_mut hl0 h6'.nn h4, h5, xs, h6.nn, h6.ls, by rw [upd_ne hyt]; exact h6.hl, rps_mut hl0 h6'.nn h6.r⟩
  exact v.chg (n' := .own3 (ps.set (ps.length - 1) (p.1, es))) hi ho (w.ow (.inr ⟨t, hm, rfl⟩)) ⟨l, ts, rfl, o3⟩ fun a ha => w.ow (o3.ow_inv ha)
/-- the last pair is taken away -/
theorem Sv.pop3 (v : Sv C s q N0 H0 N H σ ρ st) {i : Nat} {l : Addr} {ts : List Tr3} {ps : List (PyData × List PyData)} (hi : ρ[i]? = some (.own3 ps)) (ho : σ[i]? = some (some (.ref l))) (w : O3 C.K s H0 N H l ts ps) :
    O3 C.K s H0 N (upd H l (.lst (m1 ts.dropLast))) l ts.dropLast ps.dropLast ∧ Sv C s q N0 H0 N (upd H l (.lst (m1 ts.dropLast))) σ (ρ.set i (.own3 ps.dropLast)) st ∧ Fx N H N (upd H l (.lst (m1 ts.dropLast))) := by
  have o3 : O3 C.K s H0 N (upd H l (.lst (m1 ts.dropLast))) l ts.dropLast ps.dropLast := by
    refine ⟨w.h0, w.nn, w.sl, upd_same, fun y hy => w.out y (List.dropLast_subset _ hy), ?_, by rw [List.length_dropLast, List.length_dropLast, w.len], fun j y p h1 h2 => ?_⟩
    · rw [List.map_dropLast]
      exact w.nd.sublist (List.dropLast_sublist _)
    · rw [List.getElem?_dropLast] at h1 h2
      split at h1
      · split at h2
        · obtain ⟨h3, h4, h5, xs, h6⟩ := w.at_ j y p h1 h2
          exact ⟨by rw [upd_ne (by rintro e; rw [e, w.hl] at h3; cases h3)]; exact h3, rp_mut w.hl w.nn h4, h5, xs, h6.nn, h6.ls, by rw [upd_ne (w.out y (List.mem_of_getElem? h1))]; exact h6.hl, rps_mut w.hl w.nn h6.r⟩
        · cases h2
      · cases h1
  refine ⟨o3, v.chg (n' := .own3 ps.dropLast) hi ho (w.ow (.inl rfl)) ⟨l, _, rfl, o3⟩ fun a ha => ?_⟩
  rcases o3.ow_inv ha with rfl | ⟨y, hy, rfl⟩
  · exact w.ow (.inl rfl)
  · exact w.ow (.inr ⟨y, List.dropLast_subset _ hy, rfl⟩)
/-- x[-1][1].append(a) -/
def s3App (i : Nat) (a : DE C .fz) : DSt C := ⟨fun W => tDrop (tBM C.K "list" rAppend (tOp (rIxT C.K) (tOp (rIxL C.K) (tVar i) (tUn (rU fun i => .int (-i)) (tC (.int 1)))) (tC (.int 1))) (tCons (a.te W) tNil)), fun ρ st => match ρ[i]? with
  | some (.own3 ps) => match ps[ps.length - 1]? with
    | some p => bindS (a.ev ρ st) ρ fun x st1 => if p.2.length < 100000 then some (.nx, ρ.set i (.own3 (ps.set (ps.length - 1) (p.1, p.2 ++ [x]))), st1) else none
    | none => none
  | _ => none, fun {s q N0 H0 N H σ ρ ρ' st st' fl} v h W D k => by
  split at h
  · rename_i ps hi
    split at h
    · rename_i p hp
      obtain ⟨l, ts, ho, w⟩ := v.E.own3 hi
      obtain ⟨t, xs, ht, hlen, hm, h3, h4, h5, h6⟩ := w.last hp
      refine ⟨_, ho, 1, rfl, l, m1 ts, -1, .ref t.1, rfl, rfl, SqL.of w.hl, w.atm ht, t.1, [t.2.1, .ref t.2.2], 1, .ref t.2.2, rfl, rfl, .inl (.inl h3), atI_1, tyV_lst h6.hl, ?_⟩
      rcases bindS_inv h with ⟨e, h1, rfl, rfl⟩ | ⟨x, st1, h1, h2⟩
      · exact a.ok v.E v.I h1 W _ (SOut.out v k)
      · refine a.ok v.E v.I h1 W _ fun N1 H1 e1 I1 u r1 => ?_
        split at h2
        · rename_i hz
          cases h2
          have v1 := v.xt e1 I1
          have w1 := w.xt v.I e1
          have h61 := h6.xt v.I e1
          obtain ⟨v2, f2⟩ := v1.app3 hi ho w1 hp ht (h61.r.app (.cons r1 .nil))
          exact ⟨t.2.2, xs, u, rfl, rfl, h61.hl, by rw [h61.r.length]; exact sz_lt hz, k _ _ _ v2 ((e1.fx v.I).trans f2)⟩
        · cases h2
    · cases h
  · cases h⟩
/-- len(x) -/
def dLen3 (C : Ct) (i : Nat) : DE C .fz := ⟨fun W => tCB (bLen C).r (tCons (tVar i) tNil), fun ρ st => match ρ[i]? with
  | some (.own3 ps) => some (.ok (.int ps.length), st)
  | _ => none, fun {s q H0 N σ H ρ st st' r} E I h W Q k => by
  split at h
  · rename_i ps hi
    cases h
    obtain ⟨l, ts, ho, w⟩ := E.own3 hi
    exact ⟨_, ho, _, _, rfl, .inl ⟨_, SqL.of w.hl, rfl⟩, k _ _ .refl I _ (by rw [List.length_map, w.len]; exact .int _)⟩
  · cases h⟩
/-! ### name, children = x.pop(); return (name, tuple(children)) -/
def spClosed : Sp := fun vs H Q _ => ∃ (l t c : Addr) (u : V) (us xs : List V), vs = [.ref l] ∧ H l = some (.lst (us ++ [.ref t])) ∧ H t = some (.tup [u, .ref c]) ∧ H c = some (.lst xs) ∧ c ≠ l ∧
  ∀ p1 p2 o1 o2, (upd H l (.lst us)) p1 = none → o1.dict = none → (upd (upd H l (.lst us)) p1 (.frz o1 (.tup xs))) p2 = none → o2.dict = none → Q (.ref p2) (upd (upd (upd H l (.lst us)) p1 (.frz o1 (.tup xs))) p2 (.frz o2 (.tup [u, .ref p1])))
/-- y = closed(x) -/
def s3Closed (j i : Nat) : DSt C := ⟨fun _ => tAsg (tCall spClosed [] E0 (tCons (tVar i) tNil)) (gName j), fun ρ st => match ρ[i]? with
  | some (.own3 ps) => match ps[ps.length - 1]? with
    | some p => some (.nx, (ρ.set i (.own3 ps.dropLast)).set j (.d (.tuple [p.1, .tuple p.2])), st)
    | none => none
  | _ => none, fun {s q N0 H0 N H σ ρ ρ' st st' fl} v h W D k => by
  split at h
  · rename_i ps hi
    split at h
    · rename_i p hp
      cases h
      obtain ⟨l, ts, ho, w⟩ := v.E.own3 hi
      obtain ⟨t, xs, ht, hlen, hm, h3, h4, h5, h6⟩ := w.last hp
      have em : m1 ts = m1 ts.dropLast ++ [.ref t.1] := by
        have hne : ts ≠ [] := by rintro rfl; simp at ht
        have e := List.dropLast_concat_getLast hne
        have e2 : ts.getLast hne = t := by
          rw [List.getLast_eq_getElem]
          rw [List.getElem?_eq_getElem (by have := List.length_pos_iff.mpr hne; omega)] at ht
          exact Option.some.inj ht
        rw [e2] at e
        show (ts.map fun t => V.ref t.1) = (ts.dropLast.map fun t => V.ref t.1) ++ [.ref t.1]
        conv => lhs; rw [← e, List.map_append]
        rfl
      refine ⟨_, ho, l, t.1, t.2.2, t.2.1, m1 ts.dropLast, xs, rfl, by rw [← em]; exact w.hl, h3, h6.hl, w.out t hm, fun p1 p2 q1 q2 hp1 hd1 hp2 hd2 => ?_⟩
      obtain ⟨o3, v1, f1⟩ := v.pop3 hi ho w
      have X1 : Xt s N (upd H l (.lst (m1 ts.dropLast))) N _ := Xt.new (o := .frz q1 (.tup xs)) hp1
      have v2 := v1.xt X1 (v1.I.new (o := .frz q1 (.tup xs)) hp1)
      have X2 : Xt s N _ N _ := Xt.new (o := .frz q2 (.tup [t.2.1, .ref p1])) hp2
      have v3 := v2.xt X2 (v2.I.new (o := .frz q2 (.tup [t.2.1, .ref p1])) hp2)
      have r1 : RpAll C.K N (upd H l (.lst (m1 ts.dropLast))) xs p.2 := rps_mut w.hl w.nn h6.r
      have r2 := tp_of v1.I hp1 hd1 r1
      have r3 := v1.I.rp X1 (rp_mut w.hl w.nn h4)
      have r4 := tp_of v2.I hp2 hd2 (.cons r3 (.cons r2 .nil))
      exact k _ _ _ (v3.setD r4) ((f1.trans (X1.fx v1.I)).trans (X2.fx v2.I))
    · cases h
  · cases h⟩
end
end De

namespace De
open PySem PySem.Spec PyProof.Rows L2 Dx Dg
section
variable {C : Ct} {s : Sx} {q : Sq} {N0 N N1 N' : Addr → Prop} {H0 H H1 H' : Hp} {σ : L2.St} {ρ ρ' : Rho} {st st' st1 : Ds} {W : WX} {D : Ends} {fl : Fl}
/-! ### join -/
abbrev rJoinK (K : PySem.W.Frag) : V → List V → Hp → VK → Prop := fun x xs H Q => ∃ a p, ∃ ys : List Str, x = .str a ∧ xs = [.ref p] ∧ (SqL K H p (ys.map V.str) ∨ SqT K H p (ys.map V.str)) ∧ (ys.map (·.length)).sum + ys.length * a.length ≤ 16777216 ∧ Q (.str (Txt.join a ys)) H
def fJoin (z : Str) : PyData → Option PyData
  | .list xs => match asStrs xs with
    | some ys => if (ys.map (·.length)).sum + ys.length * z.length ≤ 100000 then some (.str (Txt.join z ys)) else none
    | none => none
  | _ => none
def dJoin (a b : DE C .pk) : DE C .fz := ⟨fun W => tM1 (rJoinK C.K) (a.te W) (b.te W), fun ρ st => bindR (a.ev ρ st) fun x st1 => match x with
  | .str z => bindR (b.ev ρ st1) fun y st2 => (fJoin z y).map fun r => (.ok r, st2)
  | _ => none, fun {s q H0 N σ H ρ st st' r} E I h W Q k => by
  rcases bindR_inv h with ⟨e, h1, rfl⟩ | ⟨x, st1, h1, h2⟩
  · exact a.ok E I h1 W _ k.err
  · refine a.ok E I h1 W _ fun N1 H1 e1 I1 v r1 => ?_
    split at h2
    · rename_i z
      refine ⟨⟨z, pk_s r1⟩, ?_⟩
      rcases bindR_inv h2 with ⟨e, h3, rfl⟩ | ⟨y, st2, h3, h4⟩
      · exact b.ok (E.xt I e1) I1 h3 W _ (k.step e1).err
      · refine b.ok (E.xt I e1) I1 h3 W _ fun N2 H2 e2 I2 w r2 => ?_
        cases hz : fJoin z y with
        | none => rw [hz] at h4; cases h4
        | some t =>
          rw [hz] at h4
          cases h4
          unfold fJoin at hz
          split at hz
          · split at hz
            · rename_i ys hy
              split at hz
              · rename_i hs
                cases hz
                obtain ⟨l, us, rfl, _, h5, h6⟩ := pk_l r2 I2.ns
                cases asStrs_rp h6 hy
                exact ⟨z, l, ys, pk_s r1, rfl, .inl (SqL.of h5), by omega, k _ _ (e1.trans e2) I2 _ (.str _)⟩
              · cases hz
            · cases hz
          · cases hz
    · cases h2⟩
/-- an argument that is a thing of the module -/
def aV (v : V) (t : DA C) : DA C := ⟨fun W => tCons (tC v) (t.ta W), fun ρ st => bindR (t.ev ρ st) fun as st2 => some (.ok (.vl v :: as), st2), fun {s q H0 N σ H ρ st st' r} E I h W Q k => by
  rcases bindR_inv h with ⟨e, h3, rfl⟩ | ⟨as, st2, h3, h4⟩
  · exact t.ok E I h3 W _ k.err
  · refine t.ok E I h3 W _ fun N2 H2 e2 I2 vs r2 => ?_
    cases h4
    exact k _ _ e2 I2 _ (.cons rfl r2)⟩
/-! ### folded -/
/-- a list that nobody owns is frozen -/
theorem Sv.frzA (v : Sv C s q N0 H0 N H σ ρ st) {c : Addr} {xs : List V} (hl : H c = some (.lst xs)) (cs : Nt s c) (h0 : H0 c = none) (no : ∀ (j : Nat) (e : En) (u : Option V), ρ[j]? = some e → σ[j]? = some u → ¬ Ow H e u c) :
    Sv C s q N0 H0 (fzN N c) H σ ρ st ∧ Fx N H (fzN N c) H :=
  ⟨⟨⟨v.E.len, fun j e u h1 h2 => (v.E.at_ j e u h1 h2).fz hl (no j e u h1 h2), v.E.dis⟩, v.I.frz hl cs, ⟨v.X.kp0, v.X.kq0, v.X.ks, fun a h => .inl (v.X.nn a h), fun a h => Or.elim h (v.X.nw a) (fun z => by subst z; exact .inr (.inl h0))⟩, fun _ => trivial, v.hq⟩, Fx.frz⟩
theorem iteT' {b : Bool} {x y : Prop} (h : b = true) (hx : x) : (if b = true then x else y) := by rw [if_pos h]; exact hx
theorem iteF' {b : Bool} {x y : Prop} (h : b = false) (hy : y) : (if b = true then x else y) := by rw [h]; exact hy
theorem m1_last {ts : List Tr3} {t : Tr3} (ht : ts[ts.length - 1]? = some t) : m1 ts = m1 ts.dropLast ++ [.ref t.1] := by
  have hne : ts ≠ [] := by rintro rfl; simp at ht
  have e := List.dropLast_concat_getLast hne
  have e2 : ts.getLast hne = t := by
    rw [List.getLast_eq_getElem]
    rw [List.getElem?_eq_getElem (by have := List.length_pos_iff.mpr hne; omega)] at ht
    exact Option.some.inj ht
  rw [e2] at e
  show (ts.map fun t => V.ref t.1) = (ts.dropLast.map fun t => V.ref t.1) ++ [.ref t.1]
  conv => lhs; rw [← e, List.map_append]
  rfl
/-- ways.append((u, [])) -/
theorem push_ok [Nw C] {i l : Addr} {u : V} {x : PyData} {ts : List Tr3} {ps : List (PyData × List PyData)} (v : Sv C s q N0 H0 N H σ ρ st) (ho : σ[i]? = some (some (.ref l))) (hi : ρ[i]? = some (.own3 ps)) (w : O3 C.K s H0 N H l ts ps) (r1 : Rp C.K N H u x) (hz : ps.length < 100000)
    (k : SOut C s q N0 H0 N H .nx (ρ.set i (.own3 (ps ++ [(x, [])]))) st W D) :
    (tCons (tLst tNil) tNil) σ H fun us H1 => (u :: us).length ≤ sizeLine ∧ ∀ t, H1 t = none → tNil σ (upd H1 t (.tup (u :: us))) fun vs H2 => rAppend (.ref l) (.ref t :: vs) H2 fun _ H3 => D.nx σ H3 := by
  refine ⟨sz_of (show 0 ≤ 100000 by omega), fun c hc => ⟨sz_of (show 2 ≤ 100000 by omega), fun t ht => ?_⟩⟩
  have X1 : Xt s N H N (upd H c (.lst [])) := Xt.new hc
  have I2 := v.I.new (o := .lst []) hc
  have X2 : Xt s N (upd H c (.lst [])) N (upd (upd H c (.lst [])) t (.tup [u, .ref c])) := Xt.new ht
  have I3 := I2.new (o := .tup [u, .ref c]) ht
  have X3 := X1.trans X2
  have v3 := v.xt X3 I3
  have hct : c ≠ t := by rintro rfl; rw [upd_same] at ht; cases ht
  have hc3 : (upd (upd H c (.lst [])) t (.tup [u, .ref c])) c = some (.lst []) := by rw [upd_ne hct]; exact upd_same
  have w3 := w.xt v.I X3
  have hcl : c ≠ l := by rintro rfl; rw [w.hl] at hc; cases hc
  have hcn : ∀ t, t ∈ ts → t.2.2 ≠ c := fun y hy => by
    rintro rfl
    obtain ⟨xs, hx⟩ := w.lst hy
    rw [hx] at hc
    cases hc
  have np : ¬ N c := fun z => v.I.na c z hc
  have cs : Nt s c := v.I.nt hc
  have o3 := w3.push hc3 upd_same hcl hcn np cs (v.X.free hc) (v.I.rp X3 r1)
  refine ⟨l, m1 ts, .ref t, rfl, rfl, w3.hl, by rw [List.length_map, w.len]; exact sz_lt hz, ?_⟩
  have em : m1 ts ++ [.ref t] = m1 (ts ++ [(t, u, c)]) := by rw [m1, m1, List.map_append]; rfl
  rw [em]
  obtain ⟨v4, f4⟩ := v3.chgN (n' := .own3 (ps ++ [(x, [])])) hi ho (w3.ow (.inl rfl)) ⟨l, _, rfl, o3⟩ fun a ha => by
    rcases o3.ow_inv ha with rfl | ⟨y, hy, rfl⟩
    · exact .inl (w3.ow (.inl rfl))
    · rcases List.mem_append.mp hy with hy | hy
      · exact .inl (w3.ow (.inr ⟨y, hy, rfl⟩))
      · cases List.mem_singleton.mp hy
        exact .inr fun j e u _ h1 h2 => v.E.newNo v.I X3 hc h1 h2
  exact k _ _ _ v4 ((X3.fx v.I).trans f4)
/-- the reading of: node, made = ways[-1]; if len(made) < len(node[1]): ways.append((node[1][len(made)], [])) else: ways.pop(); result = make(node[0], made); rest -/
def tFoldT (C : Ct) (R : Tab) (fm : Nat) (f : Addr) (mk w nd md rs : Nat) (rest : TS) : TS :=
  tSeq (tAsg (tOp (rIxL C.K) (tVar w) (tUn (rU fun i => .int (-i)) (tC (.int 1)))) (gTup C.K 2 (gCons (gName nd) (gCons (gName md) gNil))))
    (tIfS (tTest (tOp (rI0 fun i j => .bl (decide (i < j))) (tCB (bLen C).r (tCons (tVar md) tNil)) (tCB (bLen C).r (tCons (tOp (rIxT C.K) (tVar nd) (tC (.int 1))) tNil))))
      (tDrop (tBM C.K "list" rAppend (tVar w) (tCons (tPr (tOp (rIxT C.K) (tOp (rIxT C.K) (tVar nd) (tC (.int 1))) (tCB (bLen C).r (tCons (tVar md) tNil)))) tNil)))
      (tSeq (tDrop (tBM0 C.K "list" rPop (tVar w)))
        (tSeq (tAsg (tCallL mk f (spF C R fm) [] E0 (tCons (tOp (rIxT C.K) (tVar nd) (tC (.int 0))) (tCons (tVar md) tNil))) (gName rs)) rest)))
def sFoldT [Nw C] (R : Tab) (fm : Nat) (f : Addr) (mk w nd md rs : Nat) (rest : DSt C) : DSt C := ⟨fun W => tFoldT C R fm f mk w nd md rs (rest.ts W), fun ρ st => match ρ[w]?, ρ[mk]? with
  | some (.own3 ps), some (.vl v) => match ps[ps.length - 1]? with
    | some (.tuple [n, .tuple cs], ds) => if v = .ref f ∧ ps.length < 100000 ∧ nd < ρ.length ∧ md < ρ.length ∧ nd ≠ md ∧ w ≠ nd ∧ w ≠ md ∧ mk ≠ nd ∧ mk ≠ md ∧ mk ≠ w then
        match cs[ds.length]? with
        | some c => some (.nx, ((ρ.set nd .no).set md .no).set w (.own3 (ps ++ [(c, [])])), st)
        | none => match R fm [.d n, .d (.list ds)] st with
          | some (.ok r, st1) => rest.ev ((((ρ.set nd .no).set md .no).set w (.own3 ps.dropLast)).set rs (.d r)) st1
          | _ => none
      else none
    | _ => none
  | _, _ => none, fun {s q N0 H0 N H σ ρ ρ' st st' fl} v h W D k => by
  split at h
  · rename_i ps va hi hk
    split at h
    · rename_i n cs ds hp
      split at h
      · rename_i hc
        obtain ⟨rfl, hsz, hnd, hmd, n1, n2, n3, n4, n5, n6⟩ := hc
        obtain ⟨l, ts, ho, w3⟩ := v.E.own3 hi
        obtain ⟨t, xs, ht, hlen, hm, h3, h4, h5, h6⟩ := w3.last hp
        obtain ⟨o, hok, ho2⟩ := v.E.get hk
        cases (show o = some (.ref f) from ho2)
        -- node, made = ways[-1]
        refine ⟨_, ho, 1, rfl, l, m1 ts, -1, .ref t.1, rfl, rfl, SqL.of w3.hl, w3.atm ht, t.1, [t.2.1, .ref t.2.2], rfl, .inl (.inl h3), rfl, _, _, rfl, _, _, rfl, rfl, ?_⟩
        obtain ⟨a, us, ea, hsq, hrs⟩ := h4.tup_of
        cases hrs with
        | @cons un _ _ _ hn hrest =>
          cases hrest with
          | @cons uc _ _ _ hcs hnil =>
            cases hnil
            obtain ⟨b, vs, eb, hsq2, hrs2⟩ := hcs.tup_of
            subst eb
            have v1 := (v.setNo (i := nd) (o := some t.2.1)).setNo (i := md) (o := some (.ref t.2.2))
            have hσ : (σ.set nd (some t.2.1)).length = σ.length := List.length_set
            have hnl : nd < σ.length := by rw [v.E.len]; exact hnd
            have hml : md < σ.length := by rw [v.E.len]; exact hmd
            have gnd : ((σ.set nd (some t.2.1)).set md (some (.ref t.2.2)))[nd]? = some (some t.2.1) := by rw [List.getElem?_set_ne n1.symm, List.getElem?_set_self hnl]
            have gmd : ((σ.set nd (some t.2.1)).set md (some (.ref t.2.2)))[md]? = some (some (.ref t.2.2)) := List.getElem?_set_self (by rw [hσ]; exact hml)
            have gw : ((σ.set nd (some t.2.1)).set md (some (.ref t.2.2)))[w]? = some (some (.ref l)) := by rw [List.getElem?_set_ne n3.symm, List.getElem?_set_ne n2.symm]; exact ho
            have gmk : ((σ.set nd (some t.2.1)).set md (some (.ref t.2.2)))[mk]? = some (some (.ref f)) := by rw [List.getElem?_set_ne n5.symm, List.getElem?_set_ne n4.symm]; exact hok
            have hi1 : ((ρ.set nd .no).set md .no)[w]? = some (.own3 ps) := by rw [List.getElem?_set_ne n3.symm, List.getElem?_set_ne n2.symm]; exact hi
            have hxl : xs.length = ds.length := h6.r.length
            have hvl : vs.length = cs.length := hrs2.length
            -- len(made) < len(node[1])
            refine ⟨_, gmd, _, _, rfl, .inl ⟨xs, SqL.of h6.hl, rfl⟩, _, gnd, a, _, 1, .ref b, ea, rfl, hsq, atI_1, _, _, rfl, .inr ⟨vs, hsq2, rfl⟩, _, _, rfl, rfl, _, rfl, ?_⟩
            split at h
            · rename_i c hcc
              cases h
              have hlt : ds.length < cs.length := (List.getElem?_eq_some_iff.mp hcc).1
              refine iteT' (by rw [hxl, hvl]; exact decide_eq_true (by omega)) ?_
              obtain ⟨uc, huc, hrc⟩ := hrs2.got hcc
              refine ⟨_, gw, tyV_lst w3.hl, _, gnd, a, _, 1, .ref b, ea, rfl, hsq, atI_1, _, gmd, _, _, rfl, .inl ⟨xs, SqL.of h6.hl, rfl⟩, b, vs, _, uc, rfl, rfl, hsq2, by rw [hxl]; exact De.atI_nat huc, ?_⟩
              exact push_ok v1 gw hi1 w3 hrc hsz k
            · rename_i hcc
              have hge : cs.length ≤ ds.length := by
                rcases Nat.lt_or_ge ds.length cs.length with z | z
                · rw [List.getElem?_eq_getElem z] at hcc; cases hcc
                · exact z
              refine iteF' (by rw [hxl, hvl]; exact decide_eq_false (by omega)) ?_
              split at h
              · rename_i r st1 hR
                have em := m1_last ht
                have hlast : (m1 ts)[(m1 ts).length - 1]? = some (.ref t.1) := by
                  rw [List.length_map, List.getElem?_map, ht]
                  rfl
                refine ⟨_, gw, tyV_lst w3.hl, l, m1 ts, .ref t.1, rfl, rfl, w3.hl, hlast, ?_⟩
                obtain ⟨o3, v2, f2⟩ := v1.pop3 hi1 gw w3
                have ed : (m1 ts).dropLast = m1 ts.dropLast := by rw [m1, m1, List.map_dropLast]
                rw [ed]
                have hcl : t.2.2 ≠ l := w3.out t hm
                have hc2 : (upd H l (.lst (m1 ts.dropLast))) t.2.2 = some (.lst xs) := by rw [upd_ne hcl]; exact h6.hl
                have hmdl : md < ρ.length := hmd
                obtain ⟨v3, f3⟩ := v2.frzA (c := t.2.2) hc2 h6.ls h5 fun j e u hj1 hj2 hw => by
                  by_cases hjw : j = w
                  · subst hjw
                    rw [List.getElem?_set_self (by rw [List.length_set, List.length_set]; exact (List.getElem?_eq_some_iff.mp hi).1)] at hj1
                    cases hj1
                    rw [gw] at hj2
                    cases hj2
                    rcases o3.ow_inv hw with z | ⟨y, hy, hyc⟩
                    · exact hcl z
                    · obtain ⟨jj, hjj, ejj⟩ := List.mem_iff_getElem.mp hy
                      have hjj2 := hjj
                      rw [List.length_dropLast] at hjj2
                      rw [List.getElem_dropLast] at ejj
                      have e3 : ts[jj]? = some y := by rw [List.getElem?_eq_getElem (by omega), ejj]
                      have := nd_last w3.nd ht e3 hyc.symm
                      omega
                  · rw [List.getElem?_set_ne (fun z => hjw z.symm)] at hj1
                    have no : ¬ Ow H e u l := fun z => v1.E.dis j w e _ u _ l hjw hj1 hi1 hj2 gw z (w3.ow (.inl rfl))
                    have r1 := v1.E.at_ j e u hj1 hj2
                    have w4 := r1.ow_back (fun b x y hb => by rw [upd_ne (by rintro rfl; exact no y)]; exact hb) (fun b xs hb => by rw [upd_ne (by rintro rfl; rw [w3.hl] at hb; cases hb)]; exact hb) hw
                    exact v1.E.dis j w e _ u _ t.2.2 hjw hj1 hi1 hj2 gw w4 (w3.ow (.inr ⟨t, hm, rfl⟩))
                have hs2 : SqT C.K (upd H l (.lst (m1 ts.dropLast))) a [un, .ref b] := sqT_upd w3.hl hsq
                refine ⟨gmk, _, gnd, a, _, 0, un, ea, rfl, hs2, atI_0, _, gmd, s, q, _, [.d n, .d (.list ds)], st, r, st1, v3.I, ?_, hR, fun u1 N2 H2 X2 I2 r2 => ?_⟩
                · refine .cons ⟨un, rfl, rp_fz (rp_mut w3.hl w3.nn hn)⟩ (.cons ⟨_, rfl, .lst (.inr rfl) hc2 (rps_fz (rps_mut w3.hl w3.nn h6.r))⟩ .nil)
                · have v4 := (v3.xt X2 I2).setD (i := rs) r2
                  exact rest.ok v4 h W D (k.step ((f2.trans f3).trans (X2.fx v3.I)))
              · cases h
      · cases h
    · cases h
  · cases h⟩
end
end De

namespace De
open PySem PySem.Spec PyProof.Rows L2 Dx Dg
/-- a call of a local name that holds a def of the module -/
theorem pe_clL {X : Cx} {j k i : Nat} {x y : Str} {f : Addr} {ps : List Str} {sp : Sp} {p pos : Pos} {e : Expr} {es : List Expr} {t : TA} (c : Cl X.prog X.w X.K X.mg X.base CX0 k x ps sp) (hm : X.mg x = some (.ref f)) (hr : Room j X.A) (hk : k ≤ j) (hN : X.N[i]? = some y) (hv : Vis X.env.scope y) (ha : PA X (e :: es) t)
    (hdb : (y == ("__debug__" : Str)) = false := by decide) (hcd : (y == ("__classdict__" : Str)) = false := by decide)
    (he : starEach (e :: es) X.env = (false, eval e X.env) :: starEach es X.env := by rfl) (hpl : (backTo pos (starEach es X.env)).any (·.1) = false := by rfl) : PE X (.Call (.Name y p) (e :: es) [] pos) (tCallL i f sp [] E0 t) := by
  obtain ⟨g, fd, F, hm2, kp, b⟩ := c.ex
  rw [hm] at hm2
  cases hm2
  exact pe_callL F (hr.mono hk) hN hv kp b .nil pass0 ha hdb hcd he hpl
section
variable {P : Program} {w : World} {K : PySem.W.Frag} {mg : Str → Option Value} {base : Heap} {f : Addr} {fd : FuncData} {st : Stmt} {k : Nat}
/-- closed -/
theorem closed_F (F : Fd K "closed" "closed" st f fd) (S : FnScope ["ways", "name", "children"] ["ways"] (defScope st)) (hm : mg "closed" = some (.ref f)) (b : Binds K fd ["ways"] [])
    (hbody : ∀ (cdv : Value) (A : Around) (outer : List Env) (s : Shared) (H : Hp) (E : XK), Room k (A.deeper (envOfC "closed" (defScope st) s.heap.objs.size f cdv)) →
      PSs (cxOf CX0 P w K mg base ["ways", "name", "children"] "closed" (defScope st) f cdv A outer s H E).nox (defBody st)
        (tSeq (tAsg (tBM0 K "list" rPop (tVar 0)) (gTup K 2 (gCons (gName 1) (gCons (gName 2) gNil)))) (tRet (Tn.tTupN (tCons (tVar 1) (tCons (tCB (rTup (K := K)) (tCons (tVar 2) tNil)) tNil)))))) : Cl P w K mg base CX0 (k + 1) "closed" ["ways"] spClosed := by
  refine Cl.mk' F hm (ok0 F S ?_ fun cdv A outer s H vs Q E hr hs => ⟨_, hbody cdv A outer s H E hr, ?_⟩) b
  · rintro vs H Q E ⟨l, t, c, u, us, xs, rfl, _⟩
    rfl
  · obtain ⟨l, t, c, u, us, xs, rfl, h1, h2, h3, h4, h5⟩ := hs
    have h6 : (us ++ [V.ref t])[(us ++ [V.ref t]).length - 1]? = some (.ref t) := by simp
    have htl : t ≠ l := by rintro rfl; rw [h1] at h2; cases h2
    refine ⟨_, rfl, tyV_lst h1, l, us ++ [.ref t], .ref t, rfl, rfl, h1, h6, ?_⟩
    have e : (us ++ [V.ref t]).dropLast = us := by simp
    rw [e]
    have h7 : (upd H l (.lst us)) t = some (.tup [u, .ref c]) := by rw [upd_ne htl]; exact h2
    have h8 : (upd H l (.lst us)) c = some (.lst xs) := by rw [upd_ne h4]; exact h3
    refine ⟨t, [u, .ref c], rfl, .inl (.inl h7), rfl, _, _, rfl, _, _, rfl, rfl, ?_⟩
    refine ⟨u, rfl, .ref c, rfl, c, xs, rfl, .inl ⟨SqL.of h8, fun p1 o1 hp1 hd1 => ⟨sz_of (show 2 ≤ 100000 by omega), fun p2 o2 hp2 hd2 => h5 p1 p2 o1 o2 hp1 hd1 hp2 hd2⟩⟩⟩
end
section
variable {C : Ct} {W : Wc}
theorem te_tPr {te : TE} : tPr te = tTup (tCons te (tCons (tLst tNil) tNil)) := rfl
theorem ts_s3Push [Nw C] {i : Nat} {a : DE C .fz} : (s3Push i a).ts W = tDrop (tBM C.K "list" rAppend (tVar i) (tCons (tPr (a.te W)) tNil)) := rfl
theorem ts_s3New0 [Nw C] {i : Nat} : (s3New0 C i).ts W = tAsg (tLst tNil) (gName i) := rfl
theorem ts_s3New1 [Nw C] {i : Nat} {a : DE C .fz} : (s3New1 i a).ts W = tAsg (tLst (tCons (tPr (a.te W)) tNil)) (gName i) := rfl
theorem ts_s3App {i : Nat} {a : DE C .fz} : (s3App i a).ts W = tDrop (tBM C.K "list" rAppend (tOp (rIxT C.K) (tOp (rIxL C.K) (tVar i) (tUn (rU fun i => .int (-i)) (tC (.int 1)))) (tC (.int 1))) (tCons (a.te W) tNil)) := rfl
theorem te_dLen3 {i : Nat} : (dLen3 C i).te W = tCB (bLen C).r (tCons (tVar i) tNil) := rfl
theorem ts_s3Closed {i j : Nat} : (s3Closed (C := C) j i).ts W = tAsg (tCall spClosed [] E0 (tCons (tVar i) tNil)) (gName j) := rfl
theorem te_dJoin {a b : DE C .pk} : (dJoin a b).te W = tM1 (rJoinK C.K) (a.te W) (b.te W) := rfl
theorem te_aV {v : V} {t : DA C} : (aV v t).ta W = tCons (tC v) (t.ta W) := rfl
theorem ts_sFoldT [Nw C] {R : Tab} {fm : Nat} {f : Addr} {mk w nd md rs : Nat} {rest : DSt C} : (sFoldT R fm f mk w nd md rs rest).ts W = tFoldT C R fm f mk w nd md rs (rest.ts W) := rfl
end
/-! what they evaluate to -/
section
variable {C : Ct} {ρ : Rho} {st : Ds}
@[simp] theorem es_s3New0 [Nw C] {i : Nat} : (s3New0 C i).ev ρ st = some (.nx, ρ.set i (.own3 []), st) := rfl
@[simp] theorem es_s3New1 [Nw C] {i : Nat} {a : DE C .fz} : (s3New1 i a).ev ρ st = bindS (a.ev ρ st) ρ fun x st1 => some (.nx, ρ.set i (.own3 [(x, [])]), st1) := rfl
@[simp] theorem es_s3Push [Nw C] {i : Nat} {a : DE C .fz} {ps : List (PyData × List PyData)} (h : ρ[i]? = some (.own3 ps)) : (s3Push i a).ev ρ st = bindS (a.ev ρ st) ρ fun x st1 => if ps.length < 100000 then some (.nx, ρ.set i (.own3 (ps ++ [(x, [])])), st1) else none := by
  simp only [s3Push, h]
@[simp] theorem es_s3App {i : Nat} {a : DE C .fz} {ps : List (PyData × List PyData)} {p : PyData × List PyData} (h : ρ[i]? = some (.own3 ps)) (hp : ps[ps.length - 1]? = some p) : (s3App i a).ev ρ st = bindS (a.ev ρ st) ρ fun x st1 => if p.2.length < 100000 then some (.nx, ρ.set i (.own3 (ps.set (ps.length - 1) (p.1, p.2 ++ [x]))), st1) else none := by
  simp only [s3App, h, hp]
@[simp] theorem ev_dLen3 {i : Nat} {ps : List (PyData × List PyData)} (h : ρ[i]? = some (.own3 ps)) : (dLen3 C i).ev ρ st = some (.ok (.int ps.length), st) := by
  simp only [dLen3, h]
@[simp] theorem es_s3Closed {i j : Nat} {ps : List (PyData × List PyData)} {p : PyData × List PyData} (h : ρ[i]? = some (.own3 ps)) (hp : ps[ps.length - 1]? = some p) : (s3Closed (C := C) j i).ev ρ st = some (.nx, (ρ.set i (.own3 ps.dropLast)).set j (.d (.tuple [p.1, .tuple p.2])), st) := by
  simp only [s3Closed, h, hp]
@[simp] theorem ev_dJoin {a b : DE C .pk} : (dJoin a b).ev ρ st = bindR (a.ev ρ st) fun x st1 => match x with
  | .str z => bindR (b.ev ρ st1) fun y st2 => retO (fJoin z y) st2
  | _ => none := rfl
@[simp] theorem ev_aV {v : V} {t : DA C} : (aV v t).ev ρ st = bindR (t.ev ρ st) fun as st2 => some (.ok (.vl v :: as), st2) := rfl
end
end De

namespace De
open PySem PySem.Spec PyProof.Rows L2 Dx Dg
/-! ### sorted -/
theorem ltCps_irr : ∀ a : List Nat, ltCps a a = false
  | [] => rfl
  | x :: r => by simp [ltCps, ltCps_irr r]
theorem ltCps_tri : ∀ a b : List Nat, ltCps a b = false → ltCps b a = false → a = b
  | [], [], _, _ => rfl
  | [], _ :: _, h, _ => by cases h
  | _ :: _, [], _, h => by cases h
  | x :: r, y :: t, h, g => by
    simp only [ltCps, Bool.or_eq_false_iff, decide_eq_false_iff_not, Bool.and_eq_false_iff] at h g
    have e : x = y := by omega
    subst e
    rw [ltCps_tri r t (by rcases h.2 with z | z <;> simp_all) (by rcases g.2 with z | z <;> simp_all)]
theorem ltCps_tr : ∀ a b c : List Nat, ltCps b a = false → ltCps c b = false → ltCps c a = false
  | [], _, [], _, _ => rfl
  | [], _, _ :: _, _, _ => rfl
  | _ :: _, [], _, h, _ => by cases h
  | _ :: _, _ :: _, [], _, g => by cases g
  | x :: r, y :: t, z :: u, h, g => by
    simp only [ltCps, Bool.or_eq_false_iff, decide_eq_false_iff_not, Bool.and_eq_false_iff] at h g ⊢
    refine ⟨by omega, ?_⟩
    by_cases e : z = x
    · subst e
      have e2 : y = z := by omega
      subst e2
      right
      exact ltCps_tr r t u (by rcases h.2 with q | q <;> simp_all) (by rcases g.2 with q | q <;> simp_all)
    · left
      simpa using e
def leS (a b : Str) : Bool := !ltCps b.cps.toList a.cps.toList
theorem leS_tr {a b c : Str} (h : leS a b = true) (g : leS b c = true) : leS a c = true := by
  unfold leS at *
  rw [Bool.not_eq_true'] at *
  exact ltCps_tr _ _ _ h g
theorem leS_tot (a b : Str) : (leS a b || leS b a) = true := by
  unfold leS
  cases h : ltCps b.cps.toList a.cps.toList with
  | false => rfl
  | true =>
    cases g : ltCps a.cps.toList b.cps.toList with
    | false => rfl
    | true =>
      exfalso
      have key : ∀ x y : List Nat, ltCps x y = true → ltCps y x = true → False := by
        intro x
        induction x with
        | nil => intro y h g; cases y <;> cases g
        | cons p r ih =>
          intro y h g
          cases y with
          | nil => cases h
          | cons q t =>
            simp only [ltCps, Bool.or_eq_true, decide_eq_true_eq, Bool.and_eq_true, beq_iff_eq] at h g
            rcases h with h | ⟨h1, h2⟩
            · rcases g with g | ⟨g1, g2⟩ <;> omega
            · rcases g with g | ⟨g1, g2⟩
              · omega
              · exact ih t h2 g2
      exact key _ _ h g
theorem leS_anti {a b : Str} (h : leS a b = true) (g : leS b a = true) : a = b := by
  unfold leS at *
  rw [Bool.not_eq_true'] at *
  have := ltCps_tri _ _ g h
  cases a
  cases b
  congr 1
  exact Array.toList_inj.mp this
def sortS (xs : List Str) : List Str := xs.mergeSort leS
theorem rising_pw : ∀ {xs : List Str} {p : Str}, risingS p xs = true → (∀ x, x ∈ xs → leS p x = true) ∧ xs.Pairwise fun a b => leS a b = true
  | [], p, _ => ⟨fun x h => (by cases h), .nil⟩
  | x :: r, p, h => by
    unfold risingS at h
    obtain ⟨h1, h2⟩ := Bool.and_eq_true_iff.mp h
    obtain ⟨h3, h4⟩ := rising_pw h2
    have h5 : leS p x = true := h1
    refine ⟨fun y hy => ?_, .cons h3 h4⟩
    rcases List.mem_cons.mp hy with rfl | hy
    · exact h5
    · exact leS_tr h5 (h3 y hy)
theorem sorted_pw {xs : List Str} (h : sortedS xs = true) : xs.Pairwise fun a b => leS a b = true := by
  cases xs with
  | nil => exact .nil
  | cons x r => exact .cons (rising_pw h).1 (rising_pw h).2
theorem sortS_eq {xs ys : List Str} (hp : ys.Perm xs) (h : sortedS ys = true) : ys = sortS xs := by
  have p2 : (sortS xs).Perm xs := List.mergeSort_perm xs leS
  refine List.Perm.eq_of_pairwise (le := fun a b => leS a b = true) (fun a b _ _ h1 h2 => leS_anti h1 h2) (sorted_pw h) ?_ (hp.trans p2.symm)
  exact List.pairwise_mergeSort (le := leS) (fun a b c h g => leS_tr h g) (fun a b => leS_tot a b) xs
theorem rps_strs {K : PySem.W.Frag} {N : Addr → Prop} {H : Hp} : ∀ xs : List Str, RpAll K N H (xs.map V.str) (xs.map .str)
  | [] => .nil
  | x :: r => .cons (.str x) (rps_strs r)
def fSort : PyData → Option PyData
  | .list xs => match asStrs xs with
    | some ys => if ys.length < 64 then some (.list ((sortS ys).map .str)) else none
    | none => none
  | _ => none
def bSort (C : Ct) [Nw C] : B1 C .nw := ⟨rSortedS C.K, fSort, fun {s q N H st v x z} I hx h Q k => by
  unfold fSort at h
  split at h
  · split at h
    · rename_i ys hy
      split at h
      · rename_i hz
        cases h
        obtain ⟨l, xs, rfl, _, h1, h2⟩ := pk_l hx I.ns
        cases asStrs_rp h2 hy
        refine ⟨l, ys, rfl, SqL.of h1, hz, fun zs p hp hs hn => ?_⟩
        rw [sortS_eq hp hs]
        exact k _ _ _ (Xt.new hn) (I.new hn) (nw_of I hn (rps_strs _))
      · cases h
    · cases h
  · cases h⟩
/-! ### is True, is False -/
def oIsB (C : Ct) : Op2 C .fz := ⟨rIsB, fun x y => match x, y with
  | .bool a, .bool b => some (.bool (decide (a = b)))
  | _, _ => none, fun I hx hy h Q k => by
  split at h
  · cases h
    exact ⟨_, _, pk_b hx, pk_b hy, k _ _ _ .refl I (.bl _)⟩
  · cases h⟩
section
variable {C : Ct} {s : Sx} {q : Sq} {N0 N N1 N' : Addr → Prop} {H0 H H1 H' : Hp} {σ : L2.St} {ρ ρ' : Rho} {st st' st1 : Ds} {W : WX} {D : Ends} {fl : Fl}
/-! ### a dict of one's own: texts, each True -/
abbrev dkO (ks : List Str) : HO := .dK (ks.map fun k => ((Sum.inr k : Key), V.bl true))
mutual
theorem rp_mutK {K : PySem.W.Frag} {p : Addr} {ks : List (Key × V)} {o : HO} (hl : H p = some (.dK ks)) (hq : ¬ N p) : ∀ {d : PyData} {v : V}, Rp K N H v d → Rp K N (upd H p o) v d
  | _, _, .non => .non
  | _, _, .bl b => .bl b
  | _, _, .int i => .int i
  | _, _, .str x => .str x
  | _, _, .lst n h r => .lst n (by rw [upd_ne (by rintro rfl; rw [hl] at h; cases h)]; exact h) (rps_mutK hl hq r)
  | _, _, .tup h r => .tup (by
      rcases h with ⟨q, h, hd⟩ | h
      · exact .inl ⟨q, by rw [upd_ne (by rintro rfl; rw [hl] at h; cases h)]; exact h, hd⟩
      · exact .inr h) (rps_mutK hl hq r)
  | _, _, .dic n h r l z => .dic n (by rw [upd_ne (by rintro rfl; exact hq n)]; exact h) (rps_mutK hl hq r) l z
  | _, _, .obj n h r l z => .obj n (by rw [upd_ne (by rintro rfl; exact hq n)]; exact h) (rps_mutK hl hq r) l z
theorem rps_mutK {K : PySem.W.Frag} {p : Addr} {ks : List (Key × V)} {o : HO} (hl : H p = some (.dK ks)) (hq : ¬ N p) : ∀ {ds : List PyData} {vs : List V}, RpAll K N H vs ds → RpAll K N (upd H p o) vs ds
  | _, _, .nil => .nil
  | _, _, .cons h r => .cons (rp_mutK hl hq h) (rps_mutK hl hq r)
end
theorem XvR.chgK {p : Addr} {ks : List (Key × V)} {w : HO} {v : V} {e : Xc} (hl : H p = some (.dK ks)) (hq : ¬ N p) (h : XvR C N H v e) : XvR C N (upd H p w) v e := by
  obtain ⟨a, d, u, h1, h2, h3, h4⟩ := h
  have n1 : a ≠ p := by
    rintro rfl
    rw [hl] at h2
    have z : HO.dK ks = HO.ext _ := Option.some.inj h2
    cases z
  have n2 : d ≠ p := by
    rintro rfl
    rw [hl] at h3
    have z : HO.dK ks = HO.ext _ := Option.some.inj h3
    cases z
  exact ⟨a, d, u, h1, by rw [upd_ne n1]; exact h2, by rw [upd_ne n2]; exact h3, rp_mutK hl hq h4⟩
/-- the dict at p is changed: all but its slot stays -/
theorem EnR.chgK {H0 : Hp} {p : Addr} {ks : List (Key × V)} {w : HO} (hl : H p = some (.dK ks)) (hq : ¬ N p) : ∀ {n : En} {o : Option V}, (∀ ks, n ≠ .dk ks) → EnR C s q H0 N H n o → EnR C s q H0 N (upd H p w) n o
  | .no, _, _, h => h
  | .d x, _, _, ⟨v, h1, h2⟩ => ⟨v, h1, rp_mutK hl hq h2⟩
  | .own _, _, _, ⟨l2, xs, h1, h0, h2⟩ => ⟨l2, xs, h1, h0, h2.nn, h2.ls, by rw [upd_ne (by rintro rfl; have z := h2.hl; rw [hl] at z; cases z)]; exact h2.hl, rps_mutK hl hq h2.r⟩
  | .own2 _, _, _, ⟨l2, ls, h1, h2⟩ => ⟨l2, ls, h1, h2.h0, h2.nn, h2.sl, by rw [upd_ne (by rintro rfl; have z := h2.hl; rw [hl] at z; cases z)]; exact h2.hl, h2.out, h2.nd, h2.len, fun j a es e1 e2 => by
      obtain ⟨h3, xs, h4⟩ := h2.at_ j a es e1 e2
      exact ⟨h3, xs, h4.nn, h4.ls, by rw [upd_ne (by rintro rfl; have z := h4.hl; rw [hl] at z; cases z)]; exact h4.hl, rps_mutK hl hq h4.r⟩⟩
  | .st, _, _, h => h
  | .scr, _, _, h => h
  | .xc _, _, _, ⟨h1, h2, dd, h3, u, h4, h5⟩ => ⟨h1, h2, dd, h3, u, rp_mutK hl hq h4, by rw [upd_ne (by rintro rfl; rw [hl] at h5; cases h5)]; exact h5⟩
  | .xl _, _, _, ⟨l2, vs, h1, h2, h3, h4⟩ => ⟨l2, vs, h1, h2, by rw [upd_ne (by rintro rfl; rw [hl] at h3; cases h3)]; exact h3, paired_imp (fun _ _ h => h.chgK hl hq) h4⟩
  | .own3 _, _, _, ⟨l2, ts, h1, h2⟩ => ⟨l2, ts, h1, h2.h0, h2.nn, h2.sl, by rw [upd_ne (by rintro rfl; have z := h2.hl; rw [hl] at z; cases z)]; exact h2.hl, h2.out, h2.nd, h2.len, fun j t p e1 e2 => by
      obtain ⟨h3, h4, h5, xs, h6⟩ := h2.at_ j t p e1 e2
      exact ⟨by rw [upd_ne (by rintro rfl; rw [hl] at h3; cases h3)]; exact h3, rp_mutK hl hq h4, h5, xs, h6.nn, h6.ls, by rw [upd_ne (by rintro rfl; have z := h6.hl; rw [hl] at z; cases z)]; exact h6.hl, rps_mutK hl hq h6.r⟩⟩
  | .vl _, _, _, h => h
  | .dk ks, _, n, _ => absurd rfl (n ks)
  | .ob, _, _, h => h
  | .fn _ none, _, _, ⟨f, c, h1, h2⟩ => ⟨f, c, h1, h2.upd hl (fun _ z => by cases z)⟩
  | .fn _ (some _), _, _, ⟨f, c, h1, h2, h3, h4⟩ => ⟨f, c, h1, h2.upd hl (fun _ z => by cases z), h3, rps_mutK hl hq h4⟩
theorem ow_no_dK {H0 : Hp} {p : Addr} {ks : List (Key × V)} (hl : H p = some (.dK ks)) {n : En} {o : Option V} (r : EnR C s q H0 N H n o) {b : Addr} (w : Ow H n o b) : b ≠ p := by
  rintro rfl
  obtain ⟨⟨xs, h⟩, _⟩ := r.ow w
  rw [hl] at h
  cases h
def noDk (ρ : Rho) : Bool := ρ.all fun e => match e with | .dk _ => false | _ => true
theorem noDk_at {ρ : Rho} (h : noDk ρ = true) {i : Nat} {e : En} (hi : ρ[i]? = some e) : ∀ ks, e ≠ .dk ks := by
  rintro ks rfl
  have := List.all_eq_true.mp h _ (List.mem_of_getElem? hi)
  cases this
theorem Sv.chgK (v : Sv C s q N0 H0 N H σ ρ st) {i : Nat} {p : Addr} {ks ks' : List Str} (hn : noDk (ρ.set i .no) = true) (hi : ρ[i]? = some (.dk ks)) (ho : σ[i]? = some (some (.ref p))) (h0 : H0 p = none) (hs : Nt s p) (np : ¬ N p) (hl : H p = some (dkO ks)) :
    Sv C s q N0 H0 N (upd H p (dkO ks')) σ (ρ.set i (.dk ks')) st ∧ Fx N H N (upd H p (dkO ks')) := by
  have X : Xt s N0 H0 N (upd H p (dkO ks')) := by
    exact v.X.updO h0
  have oth : ∀ {j : Nat} {e : En}, j ≠ i → ρ[j]? = some e → ∀ ks, e ≠ .dk ks := fun {j e} hj h1 => noDk_at hn (i := j) (by rw [List.getElem?_set_ne hj.symm]; exact h1)
  have self : ∀ {y : En}, (ρ.set i (.dk ks'))[i]? = some y → y = .dk ks' := fun {y} h => by
    rw [List.getElem?_set_self (List.getElem?_eq_some_iff.mp hi).1] at h
    cases h
    rfl
  have bk : ∀ {j : Nat} {e : En} {u : Option V} {a : Addr}, ρ[j]? = some e → σ[j]? = some u → Ow (upd H p (dkO ks')) e u a → Ow H e u a := fun {j e u a} h1 h2 z => by
    have r := v.E.at_ j e u h1 h2
    exact r.ow_back (fun b x y hb => by rw [upd_ne (ow_no_dK hl r y)]; exact hb) (fun b xs hb => by rw [upd_ne (by rintro rfl; rw [hl] at hb; cases hb)]; exact hb) z
  refine ⟨⟨⟨by rw [List.length_set]; exact v.E.len, fun j e u h1 h2 => ?_, fun j1 j2 e1 e2 u1 u2 a hj h1 h2 h3 h4 w1 w2 => ?_⟩, ⟨fun a n => ?_, v.I.ns, ?_, v.hq.keep X.kp0, v.I.sc, v.I.nS, v.I.sS, fun m a h => v.I.fS m a (upd_none h), v.I.pn, tabs_upd v.I.tb hl rfl⟩, X, fun _ => trivial, v.hq⟩, ?_⟩
  · by_cases hj : i = j
    · subst hj
      cases self h1
      rw [ho] at h2
      cases h2
      exact ⟨p, rfl, h0, hs, np, upd_same⟩
    · rw [List.getElem?_set_ne hj] at h1
      exact (v.E.at_ j e u h1 h2).chgK hl np (oth (fun z => hj z.symm) h1)
  · by_cases k1 : i = j1
    · subst k1
      cases self h1
      exact w1.elim
    · by_cases k2 : i = j2
      · subst k2
        cases self h2
        exact w2.elim
      · rw [List.getElem?_set_ne k1] at h1
        rw [List.getElem?_set_ne k2] at h2
        exact v.E.dis j1 j2 e1 e2 u1 u2 a hj h1 h2 h3 h4 (bk h1 h3 w1) (bk h2 h4 w2)
  · by_cases ha : a = p
    · rw [ha, upd_same]
      exact fun z => by cases z
    · rw [upd_ne ha]
      exact v.I.na a n
  · exact v.I.hs.mono (fun o h _ => by rw [upd_ne hs.1.symm]; exact h) (fun a o g h => by rw [upd_ne (by rintro rfl; rw [hl] at h; cases h; cases g)]; exact h) (fun a o z h _ => by rw [upd_ne (by rintro rfl; exact hs.2 z)]; exact h) (fun _ _ _ h => h) (fun _ _ h => rp_mutK hl np h) (fun _ _ h => rps_mutK hl np h)
  · refine ⟨fun _ h => h, fun a o n h _ => ?_, fun a xs h => ?_, fun a o u h => ?_⟩
    · by_cases ha : a = p
      · subst ha
        exact absurd n np
      · rw [upd_ne ha]; exact h
    · rw [upd_ne (by rintro rfl; rw [hl] at h; cases h)]; exact h
    · rw [upd_ne (by rintro rfl; rw [hl] at h; cases h)]; exact h
end
end De

namespace De
open PySem PySem.Spec PyProof.Rows L2 Dx Dg
section
variable {C : Ct} {s : Sx} {q : Sq} {N0 N N1 N' : Addr → Prop} {H0 H H1 H' : Hp} {σ : L2.St} {ρ ρ' : Rho} {st st' st1 : Ds} {W : WX} {D : Ends} {fl : Fl}
/-- x = {} -/
def sDkNew (C : Ct) [Nw C] (i : Nat) : DSt C := ⟨fun _ => tAsg tDNewK (gName i), fun ρ st => some (.nx, ρ.set i (.dk []), st), fun {s q N0 H0 N H σ ρ ρ' st st' fl} v h W D k => by
  cases h
  intro p hp
  have X1 : Xt s N H N (upd H p (.dK [])) := Xt.new hp
  have v1 := v.xt X1 (v.I.new (o := .dK []) hp)
  exact k _ _ _ ⟨v1.E.set ⟨p, rfl, v.X.free hp, (v.I.nt hp), fun z => v.I.na p z hp, upd_same⟩ (fun _ z => z.elim), v1.I, v1.X, fun _ => trivial, v1.hq⟩ (X1.fx v.I)⟩
def dkPut (ks : List Str) (k : Str) : List Str := if k ∈ ks then ks else ks ++ [k]
theorem putK_dk (ks : List Str) (k : Str) : putK (ks.map fun k => ((Sum.inr k : Key), V.bl true)) (Sum.inr k) (.bl true) = (dkPut ks k).map fun k => ((Sum.inr k : Key), V.bl true) := by
  unfold putK dkPut
  by_cases h : k ∈ ks
  · rw [if_pos h, if_pos]
    · rw [List.map_map]
      refine List.map_congr_left fun x _ => ?_
      show (if (Sum.inr x : Key) = Sum.inr k then _ else _) = _
      split <;> rfl
    · rw [List.any_map, List.any_eq_true]
      exact ⟨k, h, decide_eq_true rfl⟩
  · rw [if_neg h, if_neg, List.map_append]
    · rfl
    · rw [List.any_map, List.any_eq_true]
      rintro ⟨x, hx, e⟩
      have e2 : (Sum.inr x : Key) = Sum.inr k := of_decide_eq_true e
      cases e2
      exact h hx
/-- x[k] = True -/
def sDkPut (i : Nat) (k : DE C .fz) : DSt C := ⟨fun W => tAsg (tC (.bl true)) (gSub (tVar i) (k.te W) rSetD), fun ρ st => match ρ[i]? with
  | some (.dk ks) => bindS (k.ev ρ st) ρ fun x st1 => match x with
    | .str z => if ks.length < 100000 ∧ noDk (ρ.set i .no) = true then some (.nx, ρ.set i (.dk (dkPut ks z)), st1) else none
    | _ => none
  | _ => none, fun {s q N0 H0 N H σ ρ ρ' st st' fl} v h W D kk => by
  split at h
  · rename_i ks hi
    obtain ⟨o, ho, p, rfl, h0, hs, np, hp⟩ := v.E.get hi
    refine ⟨_, ho, ?_⟩
    rcases bindS_inv h with ⟨e, h1, rfl, rfl⟩ | ⟨x, st1, h1, h2⟩
    · exact k.ok v.E v.I h1 W _ (SOut.out v kk)
    · refine k.ok v.E v.I h1 W _ fun N1 H1 e1 I1 u r1 => ?_
      split at h2
      · rename_i z
        split at h2
        · rename_i hc
          cases h2
          cases Rp.str_eq r1
          have v1 := v.xt e1 I1
          have hp1 : H1 p = some (dkO ks) := e1.kp _ _ hs hp
          have np1 : ¬ N1 p := fun z => (e1.nw p z).elim np fun z => z.elim (fun z => by rw [hp] at z; cases z) hs.2
          obtain ⟨v2, f2⟩ := v1.chgK (ks' := dkPut ks z) hc.2 hi ho h0 hs np1 hp1
          refine ⟨p, _, rfl, DPut.k (k := Sum.inr z) hp1 (by rw [List.length_map]; exact sz_lt hc.1), ?_⟩
          rw [putK_dk]
          exact kk _ _ _ v2 ((e1.fx v.I).trans f2)
        · cases h2
      · cases h2
  · cases h⟩
/-- sorted(x) -/
def rSrtK : List V → Hp → VK → Prop := fun xs H Q => ∃ (a : Addr) (kvs : List (Key × V)) (ks : List Str), xs = [.ref a] ∧ Rd H a (.dK kvs) ∧ kvs.map (·.1) = ks.map Sum.inr ∧ ks.length < 64 ∧ ∀ ys p, ys.Perm ks → sortedS ys = true → H p = none → Q (.ref p) (upd H p (.lst (ys.map V.str)))
def dDkSorted (C : Ct) [Nw C] (i : Nat) : DE C .nw := ⟨fun _ => tCB rSrtK (tCons (tVar i) tNil), fun ρ st => match ρ[i]? with
  | some (.dk ks) => if ks.length < 64 then some (.ok (.list ((sortS ks).map .str)), st) else none
  | _ => none, fun {s q H0 N σ H ρ st st' r} E I h W Q k => by
  split at h
  · rename_i ks hi
    split at h
    · rename_i hz
      cases h
      obtain ⟨o, ho, p, rfl, h0, hs, np, hp⟩ := E.get hi
      refine ⟨_, ho, p, _, ks, rfl, .inl hp, by rw [List.map_map]; rfl, hz, fun ys p2 hperm hsr hn => ?_⟩
      rw [sortS_eq hperm hsr]
      exact k _ _ (Xt.new hn) (I.new hn) _ (nw_of I hn (rps_strs _))
    · cases h
  · cases h⟩
/-! ### several at once -/
inductive Cp (C : Ct) where
  | f (a : DE C .fz)
  | n (a : DE C .nw)
def Cp.te : Cp C → Wc → TE
  | .f a => a.te
  | .n a => a.te
def Cp.ev : Cp C → Rho → Ds → Re En
  | .f a, ρ, st => bindR (a.ev ρ st) fun x st1 => some (.ok (.d x), st1)
  | .n a, ρ, st => bindR (a.ev ρ st) fun x st1 => match x with
    | .list ds => some (.ok (.own ds), st1)
    | _ => none
def CpR (C : Ct) (s : Sx) (N : Addr → Prop) (H0 H : Hp) (v : V) : En → Prop
  | .d x => Rp C.K N H v x
  | .own ds => ∃ l xs, v = .ref l ∧ H0 l = none ∧ Lw C.K s N H l xs ds
  | _ => False
theorem Cp.ok {C : Ct} {s : Sx} {q : Sq} {H0 : Hp} {N : Addr → Prop} {σ : L2.St} {H : Hp} {ρ : Rho} {st st' : Ds} {r : Except Xc En} (E : Ev C s q H0 N H σ ρ) (I : Iv C s q N H st) (W : WX) (Q : VK) : ∀ {a : Cp C}, a.ev ρ st = some (r, st') →
    Out C s q N H st' r (fun c d H' => W c d σ H') (fun e N' H' => ∀ v, CpR C s N' H H' v e → Q v H') → a.te ⟨W, q.ax⟩ σ H Q
  | .f a, h, k => by
    rcases bindR_inv h with ⟨e, h1, rfl⟩ | ⟨x, st1, h1, h2⟩
    · exact a.ok E I h1 W _ k.err
    · cases h2
      exact a.ok E I h1 W _ fun N1 H1 e1 I1 v r1 => k _ _ e1 I1 v r1
  | .n a, h, k => by
    rcases bindR_inv h with ⟨e, h1, rfl⟩ | ⟨x, st1, h1, h2⟩
    · exact a.ok E I h1 W _ k.err
    · refine a.ok E I h1 W _ fun N1 H1 e1 I1 v r1 => ?_
      split at h2
      · cases h2
        obtain ⟨l, xs, ds, rfl, hd, hl, hw⟩ := r1
        cases hd
        exact k _ _ e1 I1 _ ⟨l, xs, rfl, hl, hw⟩
      · cases h2
theorem CpR.xt {H0 : Hp} {v : V} (I : Iv C s q N H st) (e : Xt s N H N' H') : ∀ {n : En}, CpR C s N H0 H v n → CpR C s N' H0 H' v n
  | .d x, h => I.rp e h
  | .own ds, ⟨l, xs, h1, h2, h3⟩ => ⟨l, xs, h1, h2, h3.xt I e⟩
/-- slot i is set -/
theorem Sv.setCp {Hs : Hp} {i : Nat} {u : V} (v : Sv C s q N0 H0 N H σ ρ st) (h0 : ∀ a, Hs a = none → H0 a = none) : ∀ {e : En}, CpR C s N Hs H u e → (∀ l, u = .ref l → Hs l = none → ∀ (j : Nat) (e' : En) (o : Option V), j ≠ i → ρ[j]? = some e' → σ[j]? = some o → ¬ Ow H e' o l) →
    Sv C s q N0 H0 N H (σ.set i (some u)) (ρ.set i e) st
  | .d x, r, _ => v.setD r
  | .own ds, ⟨l, xs, h1, h2, h3⟩, hn => by
    subst h1
    exact v.setOwn (h0 l h2) (fun j e o hj h4 h5 z => hn l rfl h2 j e o hj h4 h5 z) h3
theorem CpR.ow {Hs : Hp} {u : V} {l : Addr} : ∀ {e : En}, CpR C s N Hs H u e → Ow H e (some u) l → ∃ xs, u = .ref l ∧ Hs l = none ∧ H l = some (.lst xs)
  | .own ds, ⟨l', xs, h1, h2, h3⟩, w => by
    subst h1
    cases (show some (V.ref l') = some (.ref l) from w)
    exact ⟨xs, rfl, h2, h3.hl⟩
  | .d x, _, w => w.elim
def sPar2 (i j : Nat) (a b : Cp C) : DSt C := ⟨fun W => tPar i j (tCons (a.te W) (tCons (b.te W) tNil)), fun ρ st => if i ≠ j then bindS (a.ev ρ st) ρ fun x st1 => bindS (b.ev ρ st1) ρ fun y st2 => some (.nx, (ρ.set i x).set j y, st2) else none, fun {s q N0 H0 N H σ ρ ρ' st st' fl} v h W D k => by
  split at h
  · rename_i hij
    rcases bindS_inv h with ⟨e, h1, rfl, rfl⟩ | ⟨x, st1, h1, h2⟩
    · exact Cp.ok v.E v.I W _ h1 (SOut.out v k)
    · refine Cp.ok v.E v.I W _ h1 fun N1 H1 e1 I1 u1 r1 => ?_
      have v1 := v.xt e1 I1
      rcases bindS_inv h2 with ⟨e, h3, rfl, rfl⟩ | ⟨y, st2, h3, h4⟩
      · exact Cp.ok v1.E I1 W _ h3 (SOut.out v1 (k.step (e1.fx v.I)))
      · refine Cp.ok v1.E I1 W _ h3 fun N2 H2 e2 I2 u2 r2 => ?_
        cases h4
        refine ⟨u1, u2, rfl, ?_⟩
        have v2 := v1.xt e2 I2
        have ra := CpR.xt I1 e2 r1
        have v3 := v2.setCp (i := i) (fun a h => v.X.free h) ra fun l _ hl jj e' o _ hj1 hj2 => v.E.newNo v.I (e1.trans e2) hl hj1 hj2
        have v4 := v3.setCp (i := j) (fun a h => v.X.free (e1.free h)) r2 fun l hu hl jj e' o hj hj1 hj2 z => by
          by_cases hji : i = jj
          · subst hji
            have hlt := (List.getElem?_eq_some_iff.mp hj1).1
            rw [List.length_set] at hlt
            rw [List.getElem?_set_self hlt] at hj1
            cases hj1
            rw [List.getElem?_set_self (by rw [v.E.len]; exact hlt)] at hj2
            cases hj2
            obtain ⟨xs, hu1, _, _⟩ := CpR.ow ra z
            subst hu1
            cases x with
            | own ds =>
              obtain ⟨l', xs', hq, _, hw⟩ := r1
              cases hq
              rw [hw.hl] at hl
              cases hl
            | own2 _ => exact r1.elim
            | own3 _ => exact r1.elim
            | _ => exact z
          · rw [List.getElem?_set_ne hji] at hj1 hj2
            exact v.E.newNo v.I (e1.trans e2) (e1.free hl) hj1 hj2 z
        exact k _ _ _ v4 ((e1.trans e2).fx v.I)
  · cases h⟩
def sPar3 (i j m : Nat) (a b c : Cp C) : DSt C := ⟨fun W => tPar3 i j m (tCons (a.te W) (tCons (b.te W) (tCons (c.te W) tNil))), fun ρ st => if i ≠ j ∧ i ≠ m ∧ j ≠ m then bindS (a.ev ρ st) ρ fun x st1 => bindS (b.ev ρ st1) ρ fun y st2 => bindS (c.ev ρ st2) ρ fun z st3 => some (.nx, ((ρ.set i x).set j y).set m z, st3) else none, fun {s q N0 H0 N H σ ρ ρ' st st' fl} v h W D k => by
  split at h
  · rename_i hij
    rcases bindS_inv h with ⟨e, h1, rfl, rfl⟩ | ⟨x, st1, h1, h2⟩
    · exact Cp.ok v.E v.I W _ h1 (SOut.out v k)
    · refine Cp.ok v.E v.I W _ h1 fun N1 H1 e1 I1 u1 r1 => ?_
      have v1 := v.xt e1 I1
      rcases bindS_inv h2 with ⟨e, h3, rfl, rfl⟩ | ⟨y, st2, h3, h4⟩
      · exact Cp.ok v1.E I1 W _ h3 (SOut.out v1 (k.step (e1.fx v.I)))
      · refine Cp.ok v1.E I1 W _ h3 fun N2 H2 e2 I2 u2 r2 => ?_
        have v2 := v1.xt e2 I2
        have e12 := e1.trans e2
        rcases bindS_inv h4 with ⟨e, h5, rfl, rfl⟩ | ⟨z, st3, h5, h6⟩
        · exact Cp.ok v2.E I2 W _ h5 (SOut.out v2 (k.step (e12.fx v.I)))
        · refine Cp.ok v2.E I2 W _ h5 fun N3 H3 e3 I3 u3 r3 => ?_
          cases h6
          refine ⟨u1, u2, u3, rfl, ?_⟩
          have v3 := v2.xt e3 I3
          have e23 := e2.trans e3
          have e123 := e12.trans e3
          have ra := CpR.xt I1 e23 r1
          have rb := CpR.xt I2 e3 r2
          have w1 := v3.setCp (i := i) (fun a h => v.X.free h) ra fun l _ hl jj e' o _ hj1 hj2 => v.E.newNo v.I e123 hl hj1 hj2
          have isA : ∀ {l : Addr} {o : Option V} {e' : En}, H1 l = none → (ρ.set i x)[i]? = some e' → (σ.set i (some u1))[i]? = some o → ¬ Ow H3 e' o l := fun {l o e'} hl hj1 hj2 zz => by
            have hlt := (List.getElem?_eq_some_iff.mp hj1).1
            rw [List.length_set] at hlt
            rw [List.getElem?_set_self hlt] at hj1
            cases hj1
            rw [List.getElem?_set_self (by rw [v.E.len]; exact hlt)] at hj2
            cases hj2
            obtain ⟨xs, hu1, _, _⟩ := CpR.ow ra zz
            subst hu1
            cases x with
            | own ds =>
              obtain ⟨l', xs', hq, _, hw⟩ := r1
              cases hq
              rw [hw.hl] at hl
              cases hl
            | own2 _ => exact r1.elim
            | own3 _ => exact r1.elim
            | _ => exact zz
          have w2 := w1.setCp (i := j) (fun a h => v.X.free (e1.free h)) rb fun l hu hl jj e' o hj hj1 hj2 zz => by
            by_cases hji : i = jj
            · subst hji
              exact isA hl hj1 hj2 zz
            · rw [List.getElem?_set_ne hji] at hj1 hj2
              exact v.E.newNo v.I e123 (e1.free hl) hj1 hj2 zz
          have w3 := w2.setCp (i := m) (fun a h => v.X.free (e12.free h)) r3 fun l hu hl jj e' o hj hj1 hj2 zz => by
            by_cases hjj : j = jj
            · subst hjj
              have hlt := (List.getElem?_eq_some_iff.mp hj1).1
              rw [List.length_set] at hlt
              rw [List.getElem?_set_self hlt] at hj1
              cases hj1
              have hlt2 := (List.getElem?_eq_some_iff.mp hj2).1
              rw [List.length_set] at hlt2
              rw [List.getElem?_set_self hlt2] at hj2
              cases hj2
              obtain ⟨xs, hu1, _, _⟩ := CpR.ow rb zz
              subst hu1
              cases y with
              | own ds =>
                obtain ⟨l', xs', hq, _, hw⟩ := r2
                cases hq
                rw [hw.hl] at hl
                cases hl
              | own2 _ => exact r2.elim
              | own3 _ => exact r2.elim
              | _ => exact zz
            · rw [List.getElem?_set_ne hjj] at hj1 hj2
              by_cases hji : i = jj
              · subst hji
                exact isA (e2.free hl) hj1 hj2 zz
              · rw [List.getElem?_set_ne hji] at hj1 hj2
                exact v.E.newNo v.I e123 (e12.free hl) hj1 hj2 zz
          exact k _ _ _ w3 (e123.fx v.I)
  · cases h⟩
/-- .. by a tuple (names that are captured) -/
def sPar3T (i j m : Nat) (a b c : Cp C) : DSt C := ⟨fun W => tAsg (tTup (tCons (a.te W) (tCons (b.te W) (tCons (c.te W) tNil)))) (gTup C.K 3 (gCons (gName i) (gCons (gName j) (gCons (gName m) gNil)))), fun ρ st => if i ≠ j ∧ i ≠ m ∧ j ≠ m then bindS (a.ev ρ st) ρ fun x st1 => bindS (b.ev ρ st1) ρ fun y st2 => bindS (c.ev ρ st2) ρ fun z st3 => some (.nx, ((ρ.set i x).set j y).set m z, st3) else none, fun {s q N0 H0 N H σ ρ ρ' st st' fl} v h W D k => by
  split at h
  · rename_i hij
    rcases bindS_inv h with ⟨e, h1, rfl, rfl⟩ | ⟨x, st1, h1, h2⟩
    · exact Cp.ok v.E v.I W _ h1 (SOut.out v k)
    · refine Cp.ok v.E v.I W _ h1 fun N1 H1 e1 I1 u1 r1 => ?_
      have v1 := v.xt e1 I1
      rcases bindS_inv h2 with ⟨e, h3, rfl, rfl⟩ | ⟨y, st2, h3, h4⟩
      · exact Cp.ok v1.E I1 W _ h3 (SOut.out v1 (k.step (e1.fx v.I)))
      · refine Cp.ok v1.E I1 W _ h3 fun N2 H2 e2 I2 u2 r2 => ?_
        have v2 := v1.xt e2 I2
        have e12 := e1.trans e2
        rcases bindS_inv h4 with ⟨e, h5, rfl, rfl⟩ | ⟨z, st3, h5, h6⟩
        · exact Cp.ok v2.E I2 W _ h5 (SOut.out v2 (k.step (e12.fx v.I)))
        · refine Cp.ok v2.E I2 W _ h5 fun N3 H3 e3 I3 u3 r3 => ?_
          cases h6
          refine ⟨sz_of (show 3 ≤ 100000 by omega), fun pt hpt => ⟨pt, [u1, u2, u3], rfl, .inl (.inl upd_same), rfl, _, _, rfl, _, _, rfl, _, _, rfl, rfl, ?_⟩⟩
          have e4 : Xt s N3 H3 N3 (upd H3 pt (.tup [u1, u2, u3])) := Xt.new hpt
          have I4 := I3.new (o := .tup [u1, u2, u3]) hpt
          have r3 := CpR.xt I3 e4 r3
          have e3 := e3.trans e4
          have I3 := I4
          have v3 := v2.xt e3 I3
          have e23 := e2.trans e3
          have e123 := e12.trans e3
          have ra := CpR.xt I1 e23 r1
          have rb := CpR.xt I2 e3 r2
          have w1 := v3.setCp (i := i) (fun a h => v.X.free h) ra fun l _ hl jj e' o _ hj1 hj2 => v.E.newNo v.I e123 hl hj1 hj2
          have isA : ∀ {l : Addr} {o : Option V} {e' : En}, H1 l = none → (ρ.set i x)[i]? = some e' → (σ.set i (some u1))[i]? = some o → ¬ Ow (upd H3 pt (.tup [u1, u2, u3])) e' o l := fun {l o e'} hl hj1 hj2 zz => by
            have hlt := (List.getElem?_eq_some_iff.mp hj1).1
            rw [List.length_set] at hlt
            rw [List.getElem?_set_self hlt] at hj1
            cases hj1
            rw [List.getElem?_set_self (by rw [v.E.len]; exact hlt)] at hj2
            cases hj2
            obtain ⟨xs, hu1, _, _⟩ := CpR.ow ra zz
            subst hu1
            cases x with
            | own ds =>
              obtain ⟨l', xs', hq, _, hw⟩ := r1
              cases hq
              rw [hw.hl] at hl
              cases hl
            | own2 _ => exact r1.elim
            | own3 _ => exact r1.elim
            | _ => exact zz
          have w2 := w1.setCp (i := j) (fun a h => v.X.free (e1.free h)) rb fun l hu hl jj e' o hj hj1 hj2 zz => by
            by_cases hji : i = jj
            · subst hji
              exact isA hl hj1 hj2 zz
            · rw [List.getElem?_set_ne hji] at hj1 hj2
              exact v.E.newNo v.I e123 (e1.free hl) hj1 hj2 zz
          have w3 := w2.setCp (i := m) (fun a h => v.X.free (e12.free h)) r3 fun l hu hl jj e' o hj hj1 hj2 zz => by
            by_cases hjj : j = jj
            · subst hjj
              have hlt := (List.getElem?_eq_some_iff.mp hj1).1
              rw [List.length_set] at hlt
              rw [List.getElem?_set_self hlt] at hj1
              cases hj1
              have hlt2 := (List.getElem?_eq_some_iff.mp hj2).1
              rw [List.length_set] at hlt2
              rw [List.getElem?_set_self hlt2] at hj2
              cases hj2
              obtain ⟨xs, hu1, _, _⟩ := CpR.ow rb zz
              subst hu1
              cases y with
              | own ds =>
                obtain ⟨l', xs', hq, _, hw⟩ := r2
                cases hq
                rw [hw.hl] at hl
                cases hl
              | own2 _ => exact r2.elim
              | own3 _ => exact r2.elim
              | _ => exact zz
            · rw [List.getElem?_set_ne hjj] at hj1 hj2
              by_cases hji : i = jj
              · subst hji
                exact isA (e2.free hl) hj1 hj2 zz
              · rw [List.getElem?_set_ne hji] at hj1 hj2
                exact v.E.newNo v.I e123 (e12.free hl) hj1 hj2 zz
          exact k _ _ _ w3 (e123.fx v.I)
  · cases h⟩
/-! ### what is popped is handed on -/
/-- y = f(x.pop()) -/
def sCallPop (R : Tab) (f j i : Nat) : DSt C := ⟨fun _ => tAsg (tCall (spF C R f) [] E0 (tCons (tBM0 C.K "list" rPop (tVar i)) tNil)) (gName j), fun ρ st => match ρ[i]? with
  | some (.own ds) => match ds[ds.length - 1]? with
    | some x => match R f [.d x] st with
      | some (.ok y, st1) => some (.nx, (ρ.set i (.own ds.dropLast)).set j (.d y), st1)
      | _ => none
    | none => none
  | _ => none, fun {s q N0 H0 N H σ ρ ρ' st st' fl} v h W D k => by
  split at h
  · rename_i ds hi
    split at h
    · rename_i x hx
      split at h
      · rename_i y st1 hR
        cases h
        obtain ⟨l, xs, ho, h0, w⟩ := v.E.own hi
        obtain ⟨u, hu, hr⟩ := w.r.got hx
        obtain ⟨m1, m2⟩ := v.mut hi ho h0 w (rps_dropLast w.r)
        refine ⟨_, ho, tyV_lst w.hl, l, xs, u, rfl, rfl, w.hl, by rw [w.r.length]; exact hu, s, q, N, [.d x], st, y, _, m1.I, .cons ⟨u, rfl, rp_mut w.hl w.nn hr⟩ .nil, hR, fun v2 N2 H2 X2 I2 r2 => ?_⟩
        exact k _ _ _ ((m1.xt X2 I2).setD r2) (m2.trans (X2.fx m1.I))
      · cases h
    · cases h
  · cases h⟩
/-- x.extend(f(x.pop())) -/
def sExtCallPop (R : Tab) (f i : Nat) : DSt C := ⟨fun _ => tDrop (tBM C.K "list" rExtend (tVar i) (tCons (tCall (spF C R f) [] E0 (tCons (tBM0 C.K "list" rPop (tVar i)) tNil)) tNil)), fun ρ st => match ρ[i]? with
  | some (.own ds) => match ds[ds.length - 1]? with
    | some x => match R f [.d x] st with
      | some (.ok (.list es), st1) => if ds.length + es.length ≤ 100000 then some (.nx, ρ.set i (.own (ds.dropLast ++ es)), st1) else none
      | _ => none
    | none => none
  | _ => none, fun {s q N0 H0 N H σ ρ ρ' st st' fl} v h W D k => by
  split at h
  · rename_i ds hi
    split at h
    · rename_i x hx
      split at h
      · rename_i es st1 hR
        split at h
        · rename_i hz
          cases h
          obtain ⟨l, xs, ho, h0, w⟩ := v.E.own hi
          obtain ⟨u, hu, hr⟩ := w.r.got hx
          obtain ⟨m1, m2⟩ := v.mut hi ho h0 w (rps_dropLast w.r)
          refine ⟨_, ho, tyV_lst w.hl, _, ho, tyV_lst w.hl, l, xs, u, rfl, rfl, w.hl, by rw [w.r.length]; exact hu, s, q, N, [.d x], st, .list es, _, m1.I, .cons ⟨u, rfl, rp_mut w.hl w.nn hr⟩ .nil, hR, fun v2 N2 H2 X2 I2 r2 => ?_⟩
          have v3 := m1.xt X2 I2
          have hi3 : (ρ.set i (.own ds.dropLast))[i]? = some (.own ds.dropLast) := List.getElem?_set_self (List.getElem?_eq_some_iff.mp hi).1
          obtain ⟨l2, xs2, ho2, h02, w2⟩ := v3.E.own hi3
          rw [ho] at ho2
          cases ho2
          obtain ⟨l3, ys, rfl, hn3, h3, h4⟩ := Rp.lst_of r2
          obtain ⟨v4, f4⟩ := v3.mut hi3 ho h02 w2 (w2.r.app h4)
          rw [List.set_set] at v4
          exact ⟨l, l3, xs2, ys, rfl, rfl, w2.hl, h3, by rw [w2.r.length, h4.length, List.length_dropLast]; exact sz_of (by omega), k _ _ _ v4 ((m2.trans (X2.fx m1.I)).trans f4)⟩
        · cases h
      · cases h
    · cases h
  · cases h⟩
end
end De

/-! Facts for classes of exceptions: the base raised too, all pairs. -/
namespace Hx
open PySem PySem.Spec PyProof.Rows L2 He ExQ Hq Dx
/-- the fields: the base's own, another class's -/
def fsB (b x : Str) (p : V) : List (Str × V) := if x = b then fB b p else fD x b p
def baseB (K : PySem.W.Frag) (b : Str) : Bool := bcB K (ga K b) (ga K b) && (eqO (PySem.W.findIn K (.ref (ga K b)) "__init__") (some (some (.ref (fAd K (b, some "__init__"))))) && xfB K (ga K b))
theorem baseB_ok {K : PySem.W.Frag} {b : Str} (h : baseB K b = true) : BC K (ga K b) (ga K b) ∧ PySem.W.findIn K (.ref (ga K b)) "__init__" = some (some (.ref (fAd K (b, some "__init__")))) ∧ XfC K (ga K b) := by
  obtain ⟨h1, h⟩ := ba h
  obtain ⟨h2, h3⟩ := ba h
  exact ⟨bcB_ok h1, eqO_ok h2, xfB_ok h3⟩
/-- isinstance of an instance of C asks what it may -/
def excB (K : PySem.W.Frag) (D : Addr) (T : String) : Bool := eqO (PySem.W.findIn K (.ref D) "__getattribute__") (some (some (.builtin "BaseException.__getattribute__"))) && (eqO (PySem.W.findIn K (.ref D) "__getattr__") (some none) && (decide (PySem.W.subIn K (.ref D) (.type "BaseException") = some true) &&
  (PySem.W.hasDictIn K D && (eqO (PySem.W.findIn K (.ref D) "__class__") (some (some (.builtin "object.__class__"))) && (eqO (PySem.W.specialIn K (.builtin "object.__class__") "__get__") (some (some (.builtin "getset_descriptor.__get__"))) && (decide (PySem.W.takesIn K (.builtin "object.__class__") = some true) &&
    (decide (PySem.W.mroIn K D (.type "object") = some true) && decide (PySem.W.kitOne K (.ref D) (.type T) = some true))))))))
theorem excB_ok {K : PySem.W.Frag} {D : Addr} {T : String} (h : excB K D T = true) : ExcC K D ∧ PySem.W.kitOne K (.ref D) (.type T) = some true := by
  obtain ⟨h1, h⟩ := ba h
  obtain ⟨h2, h⟩ := ba h
  obtain ⟨h3, h⟩ := ba h
  obtain ⟨h4, h⟩ := ba h
  obtain ⟨h5, h⟩ := ba h
  obtain ⟨h6, h⟩ := ba h
  obtain ⟨h7, h⟩ := ba h
  obtain ⟨h8, h9⟩ := ba h
  exact ⟨⟨eqO_ok h1, eqO_ok h2, of_decide_eq_true h3, h4, eqO_ok h5, eqO_ok h6, of_decide_eq_true h7, of_decide_eq_true h8⟩, of_decide_eq_true h9⟩
/-- of all classes -/
def allB (K : PySem.W.Frag) (b : Str) (cs : List Str) (T : String) : Bool := cs.all fun y => excB K (ga K y) T && (xfB K (ga K y) && (eqO (PySem.W.findIn K (.ref (ga K y)) "place") (some none) && (eqO (PySem.W.findIn K (.ref (ga K y)) "name") (some none) &&
  cs.all fun x => decide (PySem.W.exmOne K (.ref (ga K y)) (.ref (ga K x)) = some (decide (y = x) || decide (x = b))))))
structure All (K : PySem.W.Frag) (b : Str) (cs : List Str) (T : String) : Prop where
  exm : ∀ y x, y ∈ cs → x ∈ cs → PySem.W.exmOne K (.ref (ga K y)) (.ref (ga K x)) = some (decide (y = x) || decide (x = b))
  isi : ∀ y, y ∈ cs → ExcC K (ga K y) ∧ PySem.W.kitOne K (.ref (ga K y)) (.type T) = some true
  fld : ∀ y, y ∈ cs → XfC K (ga K y) ∧ PySem.W.findIn K (.ref (ga K y)) "place" = some none ∧ PySem.W.findIn K (.ref (ga K y)) "name" = some none
theorem allB_ok {K : PySem.W.Frag} {b : Str} {cs : List Str} {T : String} (h : allB K b cs T = true) : All K b cs T := by
  have h2 := List.all_eq_true.mp h
  refine ⟨fun y x hy hx => ?_, fun y hy => ?_, fun y hy => ?_⟩
  · obtain ⟨_, k⟩ := ba (h2 y hy)
    obtain ⟨_, k⟩ := ba k
    obtain ⟨_, k⟩ := ba k
    obtain ⟨_, k⟩ := ba k
    exact of_decide_eq_true (List.all_eq_true.mp k x hx)
  · exact excB_ok (ba (h2 y hy)).1
  · obtain ⟨_, k⟩ := ba (h2 y hy)
    obtain ⟨k1, k⟩ := ba k
    obtain ⟨k2, k⟩ := ba k
    obtain ⟨k3, _⟩ := ba k
    exact ⟨xfB_ok k1, eqO_ok k2, eqO_ok k3⟩
def sbM (b : Str) (cs : List Str) (x y : Str) : Option Bool := if y ∈ cs ∧ x ∈ cs then some (decide (y = x) || decide (x = b)) else none
theorem All.sb {K : PySem.W.Frag} {b : Str} {cs : List Str} {T : String} (A : All K b cs T) (x : Str) : ∀ y v, sbM b cs x y = some v → PySem.W.exmOne K (.ref (ga K y)) (.ref (ga K x)) = some v := fun y v h => by
  unfold sbM at h
  split at h
  · rename_i hm
    cases h
    exact A.exm y x hm.1 hm.2
  · cases h
def isiM (cs : List Str) (y : Str) : Option Bool := if y ∈ cs then some true else none
theorem All.is {K : PySem.W.Frag} {b : Str} {cs : List Str} {T : String} (A : All K b cs T) : ∀ y v, isiM cs y = some v → ExcC K (ga K y) ∧ PySem.W.kitOne K (.ref (ga K y)) (.type T) = some v := fun y v h => by
  unfold isiM at h
  split at h
  · cases h
    exact A.isi y ‹_›
  · cases h
theorem fsB_place {K : PySem.W.Frag} {b x : Str} (N : Addr → Prop) (H : Hp) (u : V) (p : PyData) (h : Rp K N H u p) : ∃ w, (fsB b x u).lookup ("place" : Str) = some w ∧ Rp K N H w p := by
  unfold fsB
  split
  · exact ⟨u, rfl, h⟩
  · exact ⟨u, rfl, h⟩
theorem fsB_name {K : PySem.W.Frag} {b x : Str} (N : Addr → Prop) (H : Hp) (u : V) (p : PyData) (h : Rp K N H u p) : ∃ w, (fsB b x u).lookup ("name" : Str) = some w ∧ Rp K N H w (.str x) := by
  unfold fsB
  split
  · rename_i e
    exact ⟨.str b, rfl, by rw [e]; exact .str b⟩
  · exact ⟨.str x, rfl, .str x⟩
def okM (cs : List Str) (y : Str) : Bool := decide (y ∈ cs)
theorem All.place {K : PySem.W.Frag} {b : Str} {cs : List Str} {T : String} (A : All K b cs T) : ∀ x, okM cs x = true → XfC K (ga K x) ∧ PySem.W.findIn K (.ref (ga K x)) "place" = some none ∧
    ∀ (N : Addr → Prop) (H : Hp) (u : V) (p : PyData), Rp K N H u p → ∃ w, (fsB b x u).lookup ("place" : Str) = some w ∧ Rp K N H w ((fun _ p => p : Str → PyData → PyData) x p) := fun x h => by
  have h2 := A.fld x (of_decide_eq_true h)
  exact ⟨h2.1, h2.2.1, fun N H u p r => fsB_place N H u p r⟩
theorem All.name {K : PySem.W.Frag} {b : Str} {cs : List Str} {T : String} (A : All K b cs T) : ∀ x, okM cs x = true → XfC K (ga K x) ∧ PySem.W.findIn K (.ref (ga K x)) "name" = some none ∧
    ∀ (N : Addr → Prop) (H : Hp) (u : V) (p : PyData), Rp K N H u p → ∃ w, (fsB b x u).lookup ("name" : Str) = some w ∧ Rp K N H w ((fun x _ => .str x : Str → PyData → PyData) x p) := fun x h => by
  have h2 := A.fld x (of_decide_eq_true h)
  exact ⟨h2.1, h2.2.2, fun N H u p r => fsB_name N H u p r⟩
section
variable {P : Program} {w : World} {K : PySem.W.Frag} {mg : Str → Option Value} {base : Heap} {b x : Str}
/-- a class that is raised -/
structure Xx (P : Program) (w : World) (K : PySem.W.Frag) (mg : Str → Option Value) (base : Heap) (b x : Str) : Prop where
  rs : ExQ.Rs P w K mg base x (ga K x) 2 (fun p => fsB b x p)
theorem xx_base {f2 : Nat} {fd2 : FuncData} (B : BC K (ga K b) (ga K b)) (hi : PySem.W.findIn K (.ref (ga K b)) "__init__" = some (some (.ref f2))) (F : FnOk P w K mg base CX0 1 f2 fd2 ["self", "place"] (spB K (ga K b) b)) (hb : Binds K fd2 ["self", "place"] [])
    (ty : PySem.W.typeIn K (.ref f2) = some (.type "function")) (hm : mg b = some (.ref (ga K b))) : Xx P w K mg base b b := by
  refine ⟨⟨B.oex, ⟨f2, fd2, hi, ty, hb, (F.mono (by omega)).imp ?_⟩, hm⟩⟩
  rintro vs H Q E ⟨a, p, rfl, h1, h2⟩
  refine ⟨a, _, p, rfl, B, h1, fun dx h3 h4 => ?_⟩
  have := h2 dx h3 h4
  unfold fsB at this
  rw [if_pos rfl] at this
  exact this
theorem xx_own (ne : x ≠ b) (R : ExQ.Rs P w K mg base x (ga K x) 2 (fun p => fD x b p)) : Xx P w K mg base b x := by
  refine ⟨?_⟩
  have e : (fun p => fsB b x p) = fun p => fD x b p := by
    funext p
    unfold fsB
    rw [if_neg ne]
  rw [e]
  exact R
end
end Hx

namespace ExQ
open PySem PySem.Spec PyProof.Rows L2 NdefX
/-- isinstance(e, B), B a class of the module -/
def rIsXB (K : PySem.W.Frag) (a : Addr) (cls : Value) (d : Option Addr) : List V → Hp → VK → Prop := fun xs H Q => ∃ (D dd B : Addr) (fs : List (Str × V)) (b : Bool), cls = .ref D ∧ d = some dd ∧ H dd = some (.xd fs) ∧ ExcC K D ∧ PySem.W.kitOne K (.ref D) (.ref B) = some b ∧ xs = [.ref a, .ref B] ∧ Q (.bl b) H
theorem call_isXB {X : Cx} {a : Addr} {oe : Obj} {cls : Value} {d : Option Addr} {pn : List (Addr × Obj)} (hz : Zc cls d oe) (hf : ∃ vs, oe.data = .fields vs) : CallR (X.suite a ((a, oe) :: pn)) (.builtin "isinstance") (rIsXB X.K a cls d) := by
  intro pins s σ H xs us Q I r h
  obtain ⟨D, dd, B, fs, b, rfl, rfl, hd, C, e, rfl, q⟩ := h
  cases r with
  | cons rx rr =>
    cases rr with
    | cons rt rr =>
      cases rr
      cases rx
      cases rt
      obtain ⟨hget, _⟩ := I.pin (a, oe) (List.mem_append.mpr (.inl List.mem_cons_self))
      obtain ⟨vs, hv⟩ := hf
      have hx : ObjOk X.prog X.w H s.heap dd (.xd fs) := I.hok dd _ hd
      obtain ⟨mA, hns, hr⟩ := hx
      obtain ⟨od, ho, hl⟩ := lookIn_ns hns
      have J : PySem.W.InstAt s.heap a oe D (some od) := ⟨hget, hz.1, by unfold PySem.W.notCls; rw [hv] <;> rfl, by rw [hz.2]; exact ho⟩
      have hcl : (PySem.W.clsIn X.K D).isSome = true := by
        obtain ⟨cd, hc, _⟩ := PySem.W.any_some C.hd
        rw [hc]; rfl
      exact PySem.W.kia_one (PySem.W.kitx_exc hcl C.hg C.hk C.hs C.ha C.hn C.ht C.hm) I.kIn J e (fun z => nomatch z) fun tk => ⟨.bl b, H, I.kept (t' := tk) fun _ _ z => z, rfl, q⟩
end ExQ
namespace Hx
open PySem PySem.Spec PyProof.Rows L2 He ExQ Hq Dx
def excRB (K : PySem.W.Frag) (D B : Addr) : Bool := eqO (PySem.W.findIn K (.ref D) "__getattribute__") (some (some (.builtin "BaseException.__getattribute__"))) && (eqO (PySem.W.findIn K (.ref D) "__getattr__") (some none) && (decide (PySem.W.subIn K (.ref D) (.type "BaseException") = some true) &&
  (PySem.W.hasDictIn K D && (eqO (PySem.W.findIn K (.ref D) "__class__") (some (some (.builtin "object.__class__"))) && (eqO (PySem.W.specialIn K (.builtin "object.__class__") "__get__") (some (some (.builtin "getset_descriptor.__get__"))) && (decide (PySem.W.takesIn K (.builtin "object.__class__") = some true) &&
    (decide (PySem.W.mroIn K D (.type "object") = some true) && decide (PySem.W.kitOne K (.ref D) (.ref B) = some true))))))))
theorem excRB_ok {K : PySem.W.Frag} {D B : Addr} (h : excRB K D B = true) : ExcC K D ∧ PySem.W.kitOne K (.ref D) (.ref B) = some true := by
  obtain ⟨h1, h⟩ := ba h
  obtain ⟨h2, h⟩ := ba h
  obtain ⟨h3, h⟩ := ba h
  obtain ⟨h4, h⟩ := ba h
  obtain ⟨h5, h⟩ := ba h
  obtain ⟨h6, h⟩ := ba h
  obtain ⟨h7, h⟩ := ba h
  obtain ⟨h8, h9⟩ := ba h
  exact ⟨⟨eqO_ok h1, eqO_ok h2, of_decide_eq_true h3, h4, eqO_ok h5, eqO_ok h6, of_decide_eq_true h7, of_decide_eq_true h8⟩, of_decide_eq_true h9⟩
end Hx
namespace De
open PySem PySem.Spec PyProof.Rows L2 Dx Dg
section
variable {C : Ct}
def dIsXB (x B : Str) (i : Nat) (hf : ExcC C.K (C.ca x) ∧ PySem.W.kitOne C.K (.ref (C.ca x)) (.ref (C.ca B)) = some true) : DE C .fz := ⟨fun W => tCB (ExQ.rIsXB C.K W.ax.a W.ax.cls W.ax.d) (tCons (tVar i) (tCons (tC (.ref (C.ca B))) tNil)), fun ρ st => match ρ[i]? with
  | some (.xc e) => if e.x = x then some (.ok (.bool true), st) else none
  | _ => none, fun {s q H0 N σ H ρ st st' r} E I h W Q k => by
  split at h
  · rename_i e hi
    split at h
    · rename_i hx
      cases h
      obtain ⟨o, ho, rfl, h2, dd, h3, p, h4, h5⟩ := E.get hi
      rw [hx] at h2
      exact ⟨_, ho, _, dd, _, _, true, h2, h3, h5, hf.1, hf.2, rfl, k _ _ .refl I _ (.bl _)⟩
    · cases h
  · cases h⟩
@[simp] theorem ev_dIsXB {x B : Str} {i : Nat} {hf : ExcC C.K (C.ca x) ∧ PySem.W.kitOne C.K (.ref (C.ca x)) (.ref (C.ca B)) = some true} {ρ : Rho} {st : Ds} {e : Xc} (h : ρ[i]? = some (.xc e)) (hx : e.x = x) : (dIsXB x B i hf).ev ρ st = some (.ok (.bool true), st) := by
  simp only [dIsXB, h]
  exact if_pos hx
end
/-- max(a, b) -/
def dMax (C : Ct) (a b : DE C .pk) : DE C .fz := ⟨fun W => tCB (fun xs H Q => ∃ i j, xs = [.int i, .int j] ∧ Q (.int (if j > i then j else i)) H) (tCons (a.te W) (tCons (b.te W) tNil)), fun ρ st => bindR (a.ev ρ st) fun x st1 => bindR (b.ev ρ st1) fun y st2 => (fI (fun _ _ => true) (fun i j => .int (if j > i then j else i)) x y).map fun z => (.ok z, st2), fun {s q H0 N σ H ρ st st' r} E I h W Q k => by
  rcases bindR_inv h with ⟨e, h1, rfl⟩ | ⟨x, st1, h1, h2⟩
  · exact a.ok E I h1 W _ k.err
  · refine a.ok E I h1 W _ fun N1 H1 e1 I1 v r1 => ?_
    rcases bindR_inv h2 with ⟨e, h3, rfl⟩ | ⟨y, st2, h3, h4⟩
    · exact b.ok (E.xt I e1) I1 h3 W _ (k.step e1).err
    · refine b.ok (E.xt I e1) I1 h3 W _ fun N2 H2 e2 I2 w r2 => ?_
      cases hz : fI (fun _ _ => true) (fun i j => .int (if j > i then j else i)) x y with
      | none => rw [hz] at h4; cases h4
      | some z =>
        rw [hz] at h4
        cases h4
        obtain ⟨i, j, rfl, rfl, _, rfl⟩ := fI_inv hz
        cases pk_i r1
        cases pk_i r2
        exact ⟨i, j, rfl, k _ _ (e1.trans e2) I2 _ (.int _)⟩⟩
theorem te_dMax {C : Ct} {W : Wc} {a b : DE C .pk} : (dMax C a b).te W = tCB (fun xs H Q => ∃ i j, xs = [.int i, .int j] ∧ Q (.int (if j > i then j else i)) H) (tCons (a.te W) (tCons (b.te W) tNil)) := rfl
@[simp] theorem ev_dMax {C : Ct} {ρ : Rho} {st : Ds} {a b : DE C .pk} : (dMax C a b).ev ρ st = bindR (a.ev ρ st) fun x st1 => bindR (b.ev ρ st1) fun y st2 => retO (fI (fun _ _ => true) (fun i j => .int (if j > i then j else i)) x y) st2 := rfl
/-! ### a tape -/
section
variable {P : Program} {w : World} {C : Ct} {mg : Str → Option Value} {base : Heap} {f : Addr} {fd : FuncData} {st : Stmt} {Nr : List Str} {k : Nat} {body : DSt C} {s0 : List Int} {R : Tab} {nm : Str} {te : TE}
theorem law_T (hmd : C.md = false) (hT : C.T = []) (F : Fd C.K "law" "law" st f fd) (S : FnScope ("script" :: nm :: Nr) ["script"] (defScope st))
    (hte : ∀ (σ : L2.St) (H : Hp) (a : Addr) (ns : List Int) (Q : VK), σ[0]? = some (some (.ref a)) → SqL C.K H a (ns.map V.int) → (∀ p1 p2, H p1 = none → (upd H p1 (.lst (ns.map V.int))) p2 = none → Q (.ref p2) (upd (upd H p1 (.lst (ns.map V.int))) p2 (.lst (stV C ⟨p1, [], ax0, none, none⟩ ⟨[], s0, [], false, []⟩)))) → te σ H Q)
    (hev : ∀ ns : List Int, ns.length ≤ 63 → ∃ ρ' st', body.ev (.no :: .st :: List.replicate Nr.length .no) ⟨ns, s0, [], false, []⟩ = some (.rt (.bool true), ρ', st'))
    (hbody : ∀ (cdv : Value) (A : Around) (outer : List Env) (s : Shared) (H : Hp) (E : XK), Room k (A.deeper (envOfC "law" (defScope st) s.heap.objs.size f cdv)) →
      PSs (cxOf CX0 P w C.K mg base ("script" :: nm :: Nr) "law" (defScope st) f cdv A outer s H E).nox (defBody st) (tSeq (tAsg te (gName 1)) (body.ts ⟨fun _ _ _ _ => False, ax0⟩))) : FnOk P w C.K mg base CX0 (k + 1) f fd ["script"] (spLaw C.K) := by
  refine ok0 F S ?_ fun cdv A outer s H vs Q E hr hs => ⟨_, hbody cdv A outer s H E hr, ?_⟩
  · rintro vs H Q E ⟨a, ns, rfl, _⟩
    rfl
  · obtain ⟨a, ns, rfl, hn, hS, hQ⟩ := hs
    obtain ⟨ρ', st', he⟩ := hev ns hn
    refine hte _ _ a ns _ rfl hS fun p1 p hp1 hp => ?_
    let q : Sq := ⟨p1, ns, ax0, none, none⟩
    let sx : Sx := ⟨p, fun _ => False⟩
    let N0 : Addr → Prop := fun _ => False
    let H1 : Hp := upd (upd H p1 (.lst (ns.map V.int))) p (.lst (stV C q ⟨ns, s0, [], false, []⟩))
    have hne : p1 ≠ p := by rintro rfl; rw [upd_same] at hp; cases hp
    have I : Iv C sx q N0 H1 ⟨ns, s0, [], false, []⟩ := ⟨fun _ z => z.elim, fun z => z, upd_same, .inl ⟨.inl (by show upd _ _ _ _ = _; rw [upd_ne hne]; exact upd_same), hne, fun z => z⟩, rfl, fun _ _ z => z, fun z => z, fun m => (by rw [hmd] at m; cases m), rfl, fun p hp => (by rw [hT] at hp; cases hp)⟩
    have E0 : Ev C sx q H1 N0 H1 (L2.start ("script" :: nm :: Nr) [.ref a]) (List.replicate (Nr.length + 2) .no) := by
      refine ⟨?_, fun i e o h1 _ => ?_, fun i j e f o u b _ h1 _ _ _ w _ => ?_⟩
      · unfold L2.start
        simp
      · rw [List.getElem?_replicate] at h1
        split at h1
        · cases h1; exact trivial
        · cases h1
      · rw [List.getElem?_replicate] at h1
        split at h1
        · cases h1
          exact w
        · cases h1
    have E1 := E0.set (i := 1) (n := .st) (o := some (.ref p)) ⟨rfl, rfl⟩ fun _ z => z.elim
    have E2 : Ev C sx q H1 N0 H1 ((L2.start ("script" :: nm :: Nr) [.ref a]).set 1 (some (.ref p))) (.no :: .st :: List.replicate Nr.length .no) := E1
    exact body.ok (s := sx) (q := q) ⟨E2, I, .refl, fun _ => trivial, I.hq⟩ he _ _ fun v N' H' _ _ r => by
      cases r
      exact hQ H'
theorem tape_ok {σ : L2.St} {H : Hp} {a : Addr} {ns : List Int} {Q : VK} {C : Ct} (hf : C.fam = true) (h0 : σ[0]? = some (some (.ref a))) (hS : SqL C.K H a (ns.map V.int)) (h : ∀ p1 p2, H p1 = none → (upd H p1 (.lst (ns.map V.int))) p2 = none → Q (.ref p2) (upd (upd H p1 (.lst (ns.map V.int))) p2 (.lst (stV C ⟨p1, [], ax0, none, none⟩ ⟨[], [0, 0, 30], [], false, []⟩)))) :
    tLst (tCons (tCB (rList (K := C.K)) (tCons (tVar 0) tNil)) (tCons (tC (.int 0)) (tCons (tC (.int 0)) (tCons (tC (.int 30)) tNil)))) σ H Q :=
  ⟨_, h0, a, _, rfl, .inl hS, fun p1 hp1 => ⟨sz_of (show 4 ≤ 100000 by omega), fun p2 hp2 => by
    have e := h p1 p2 hp1 hp2
    unfold stV at e
    rw [if_pos hf] at e
    exact e⟩⟩
end
section
variable {C : Ct} {W : Wc}
theorem te_dIsXB {x B : Str} {i : Nat} {hf : ExcC C.K (C.ca x) ∧ PySem.W.kitOne C.K (.ref (C.ca x)) (.ref (C.ca B)) = some true} : (dIsXB x B i hf).te W = tCB (ExQ.rIsXB C.K W.ax.a W.ax.cls W.ax.d) (tCons (tVar i) (tCons (tC (.ref (C.ca B))) tNil)) := rfl
theorem ts_sDkNew [Nw C] {i : Nat} : (sDkNew C i).ts W = tAsg tDNewK (gName i) := rfl
theorem ts_sDkPut {i : Nat} {k : DE C .fz} : (sDkPut i k).ts W = tAsg (tC (.bl true)) (gSub (tVar i) (k.te W) rSetD) := rfl
theorem te_dDkSorted [Nw C] {i : Nat} : (dDkSorted C i).te W = tCB rSrtK (tCons (tVar i) tNil) := rfl
theorem te_cpf {a : DE C .fz} : (Cp.f a).te W = a.te W := rfl
theorem te_cpn {a : DE C .nw} : (Cp.n a).te W = a.te W := rfl
theorem ts_sPar2 {i j : Nat} {a b : Cp C} : (sPar2 i j a b).ts W = tPar i j (tCons (a.te W) (tCons (b.te W) tNil)) := rfl
theorem ts_sPar3 {i j m : Nat} {a b c : Cp C} : (sPar3 i j m a b c).ts W = tPar3 i j m (tCons (a.te W) (tCons (b.te W) (tCons (c.te W) tNil))) := rfl
theorem ts_sPar3T {i j m : Nat} {a b c : Cp C} : (sPar3T i j m a b c).ts W = tAsg (tTup (tCons (a.te W) (tCons (b.te W) (tCons (c.te W) tNil)))) (gTup C.K 3 (gCons (gName i) (gCons (gName j) (gCons (gName m) gNil)))) := rfl
theorem ts_sCallPop {R : Tab} {f j i : Nat} : (sCallPop (C := C) R f j i).ts W = tAsg (tCall (spF C R f) [] E0 (tCons (tBM0 C.K "list" rPop (tVar i)) tNil)) (gName j) := rfl
theorem ts_sExtCallPop {R : Tab} {f i : Nat} : (sExtCallPop (C := C) R f i).ts W = tDrop (tBM C.K "list" rExtend (tVar i) (tCons (tCall (spF C R f) [] E0 (tCons (tBM0 C.K "list" rPop (tVar i)) tNil)) tNil)) := rfl
end
section
variable {C : Ct} {ρ : Rho} {st : Ds}
@[simp] theorem es_sDkNew [Nw C] {i : Nat} : (sDkNew C i).ev ρ st = some (.nx, ρ.set i (.dk []), st) := rfl
@[simp] theorem ev_dDkSorted [Nw C] {i : Nat} {ks : List Str} (h : ρ[i]? = some (.dk ks)) : (dDkSorted C i).ev ρ st = if ks.length < 64 then some (.ok (.list ((sortS ks).map .str)), st) else none := by
  simp only [dDkSorted, h]
@[simp] theorem ev_cpf {a : DE C .fz} : (Cp.f a).ev ρ st = bindR (a.ev ρ st) fun x st1 => some (.ok (.d x), st1) := rfl
@[simp] theorem ev_cpn {a : DE C .nw} : (Cp.n a).ev ρ st = bindR (a.ev ρ st) fun x st1 => match x with
    | .list ds => some (.ok (.own ds), st1)
    | _ => none := rfl
@[simp] theorem es_sPar2 {i j : Nat} {a b : Cp C} : (sPar2 i j a b).ev ρ st = if i ≠ j then bindS (a.ev ρ st) ρ fun x st1 => bindS (b.ev ρ st1) ρ fun y st2 => some (.nx, (ρ.set i x).set j y, st2) else none := rfl
@[simp] theorem es_sPar3 {i j m : Nat} {a b c : Cp C} : (sPar3 i j m a b c).ev ρ st = if i ≠ j ∧ i ≠ m ∧ j ≠ m then bindS (a.ev ρ st) ρ fun x st1 => bindS (b.ev ρ st1) ρ fun y st2 => bindS (c.ev ρ st2) ρ fun z st3 => some (.nx, ((ρ.set i x).set j y).set m z, st3) else none := rfl
@[simp] theorem es_sPar3T {i j m : Nat} {a b c : Cp C} : (sPar3T i j m a b c).ev ρ st = if i ≠ j ∧ i ≠ m ∧ j ≠ m then bindS (a.ev ρ st) ρ fun x st1 => bindS (b.ev ρ st1) ρ fun y st2 => bindS (c.ev ρ st2) ρ fun z st3 => some (.nx, ((ρ.set i x).set j y).set m z, st3) else none := rfl
@[simp] theorem es_sCallPop {R : Tab} {f j i : Nat} {ds : List PyData} {x y : PyData} {st1 : Ds} (h : ρ[i]? = some (.own ds)) (hx : ds[ds.length - 1]? = some x) (hR : R f [.d x] st = some (.ok y, st1)) : (sCallPop (C := C) R f j i).ev ρ st = some (.nx, (ρ.set i (.own ds.dropLast)).set j (.d y), st1) := by
  simp only [sCallPop, h, hx, hR]
@[simp] theorem es_sExtCallPop {R : Tab} {f i : Nat} {ds es : List PyData} {x : PyData} {st1 : Ds} (h : ρ[i]? = some (.own ds)) (hx : ds[ds.length - 1]? = some x) (hR : R f [.d x] st = some (.ok (.list es), st1)) (hz : ds.length + es.length ≤ 100000) : (sExtCallPop (C := C) R f i).ev ρ st = some (.nx, ρ.set i (.own (ds.dropLast ++ es)), st1) := by
  simp only [sExtCallPop, h, hx, hR]
  exact if_pos hz
@[simp] theorem es_sDkPut {i : Nat} {k : DE C .fz} {ks : List Str} (h : ρ[i]? = some (.dk ks)) : (sDkPut i k).ev ρ st = bindS (k.ev ρ st) ρ fun x st1 => match x with
    | .str z => if ks.length < 100000 ∧ noDk (ρ.set i .no) = true then some (.nx, ρ.set i (.dk (dkPut ks z)), st1) else none
    | _ => none := by
  show (match ρ[i]? with
  | some (.dk ks) => bindS (k.ev ρ st) ρ fun x st1 => match x with
    | .str z => if ks.length < 100000 ∧ noDk (ρ.set i .no) = true then some (.nx, ρ.set i (.dk (dkPut ks z)), st1) else none
    | _ => none
  | _ => none) = _
  rw [h]
@[simp] theorem f_sort [Nw C] {xs : List PyData} : (bSort C).f (.list xs) = fSort (.list xs) := rfl
@[simp] theorem f_oIsB {a b : Bool} : (oIsB C).f (.bool a) (.bool b) = some (.bool (decide (a = b))) := rfl
end
end De

/-! an except suite with a name that raises -/
namespace L2H
open PySem PySem.Spec PyProof.Rows L2 HotX
theorem heldZ_gone {B h h' : Heap} {l : List Env} {a L : Addr} {Z : Obj → Prop} {m m' : Str → Option Value} (x : HandSPX.HeldZ B l a Z L h) (hn : h.Ns L m) (hn' : h'.Ns L m') (hs : Heap.SameBut L h h') (hbL : B.get? L = none) : HandSPX.HeldZ B l a Z L h' := by
  obtain ⟨b1, b0, f1, oe, vs, T, oT, ts, he, hc, hd, h1, hnT, hTe, hT, hdT, h3⟩ := x
  obtain ⟨oL, es, ep, hoL, hdL, _⟩ := hn
  have neE : a ≠ L := fun q => by
    rw [q, hoL] at he
    cases he
    rw [hdL] at hd
    cases hd
  have neT : T ≠ L := fun q => by
    rw [q, hoL] at hT
    cases hT
    rw [hdL] at hdT
    cases hdT
  exact ⟨fun b o hb => (hs.2 b fun q => by rw [q, hbL] at hb; cases hb).trans (b1 b o hb), b0, Heap.FunFrames.sameBut hs hn' f1, oe, vs, T, oT, ts, (hs.2 a neE).trans he, hc, hd, h1, hnT, hTe, (hs.2 T neT).trans hT, hdT, h3⟩
section
variable {X : Cx} {pins : List (Addr × Obj)} {σ : L2.St} {H : Hp} {s : Shared}
theorem inv_gone {i : Nat} {n : Str} {m : Str → Option Value} {v : Option Value} {h' : Heap} (I : Inv X pins σ H s) (hN : X.N.Nodup) (hi : X.N[i]? = some n) (hn : s.heap.Ns X.env.locals m)
    (hlk : ∀ (j : Nat) (y : Str) (v' : V), X.N[j]? = some y → σ[j]? = some (some v') → Vis X.env.scope y → ∃ u', RelV v' u' ∧ Look X.env s.heap m y u')
    (hn' : h'.Ns X.env.locals (fun x => if x = n then v else m x)) (hs : Heap.SameBut X.env.locals s.heap h') : Inv X pins (σ.set i none) H { s with heap := h' } := by
  obtain ⟨oL, _, _, hoL, _⟩ := id hn
  have neL : ∀ b o, X.s_0.heap.get? b = some o → b ≠ X.env.locals := fun b o e => Nat.ne_of_lt (Nat.lt_of_lt_of_le (Heap.lt_size e) I.ok.above)
  refine ⟨I.ok, I.os, I.bare, ⟨fun b o e n hb hx => ?_, fun b o e n hb hx => ?_, I.base.free, fun b o e hx => ?_, I.base.tups, I.base.frzs, I.base.tbls⟩, ⟨_, hn', fun j y v' e1 e2 e3 => ?_⟩, fun y c e => ?_, I.free, I.freeC, fun p hp => ?_, fun b ob e => ?_, by simpa using I.len⟩
  · exact (hs.2 b (neL b o e)).trans (I.base.keep b o e n hb hx)
  · obtain ⟨sl, e1⟩ := I.base.slot b o e n hb hx
    exact ⟨sl, (hs.2 b (neL b o e)).trans e1⟩
  · obtain ⟨o', e1⟩ := I.base.there b o e hx
    exact ⟨o', (hs.2 b (neL b o e)).trans e1⟩
  · by_cases hj : j = i
    · subst hj
      by_cases hlt : j < σ.length
      · rw [List.getElem?_set_self hlt] at e2; cases e2
      · rw [List.getElem?_eq_none (by simpa using hlt)] at e2; cases e2
    · rw [List.getElem?_set_ne (Ne.symm hj)] at e2
      obtain ⟨u', r', q⟩ := hlk j y v' e1 e2 e3
      refine ⟨u', r', ?_⟩
      rcases q with ⟨k, e⟩ | ⟨k, c, e, z⟩
      · have ny : y ≠ n := fun e => hj (nodup_ix hN e1 (e ▸ hi))
        exact .inl ⟨k, (if_neg ny).trans e⟩
      · exact .inr ⟨k, c, e, z.sameBut hs (I.cne y c e)⟩
  · obtain ⟨w', z⟩ := I.cell y c e
    exact ⟨w', z.sameBut hs (I.cne y c e)⟩
  · obtain ⟨e, n, ne, nf, d⟩ := I.pin p hp
    exact ⟨(hs.2 p.1 ne).trans e, n, ne, nf, d⟩
  · refine (I.hok b ob e).stay (fun c w' hc q => (hs.2 c ?_).trans q) (fun _ q => q) fun _ _ q => q
    intro z
    subst z
    rcases hc with hc | hc
    · rw [← hc, I.free] at e; cases e
    · rw [I.free] at hc; cases hc
/-- the name goes, the new exception goes on -/
theorem as_raised {i : Nat} {n : Str} {pos : Pos} {W : WX} {u : Value} {s6 : Shared} {hd : Option Value} {E2 E3 : Value → Shared → Prop} (hs : X.stack = X.env :: X.outer) (hf : X.env.frame = some X.env.locals) (hN : X.N.Nodup) (hi : X.N[i]? = some n) (hln : X.env.kindOf n = some .local) (tk : L2.Takes X W)
    (xx : L2.XE X (fun cls d σ H => W cls d (σ.set i none) H) u s6) :
    wpAny (model X.prog X.w) (X.A.mark hd) (noteFrame u X.env) (fun _ s' => wpAny (model X.prog X.w) (X.A.mark hd) (do bindName X.env n .none; unbindBehindTheSuite X.env n pos)
      (fun _ s'' => wpAny (model X.prog X.w) (X.A.mark hd) (PySem.passOn "try.except-as" u X.env : Sem Flow) (fun _ _ => False) (notedBy (model X.prog X.w) (X.A.mark hd) X.env (cameBackBy (model X.prog X.w) X.A X.env X.xe)) s'') E3 s') E2 s6 := by
  obtain ⟨a, B, sI, pins', σ', H', cls, d, rfl, I, nb, up, sky, na, os, ag, w⟩ := xx
  have ok := I.ok
  have hfr : (X.A.mark hd).frames = some (X.env :: X.outer) := by
    have : X.A.frames = some (X.env :: X.outer) := by rw [ok.frames, hs]
    exact this
  rw [hs] at sky
  have rest : ∀ h1, HandSPX.HeldZ B (X.env :: X.outer) a (Zc cls d) X.env.locals h1 → s6.heap.UpToSlots h1 → wpAny (model X.prog X.w) (X.A.mark hd) (do bindName X.env n .none; unbindBehindTheSuite X.env n pos)
      (fun _ s'' => wpAny (model X.prog X.w) (X.A.mark hd) (PySem.passOn "try.except-as" (.ref a) X.env : Sem Flow) (fun _ _ => False) (notedBy (model X.prog X.w) (X.A.mark hd) X.env (cameBackBy (model X.prog X.w) X.A X.env X.xe)) s'') E3 { s6 with heap := h1 } := by
    intro h1 hh up1
    obtain ⟨m, hn, hlk⟩ := id I.loc
    obtain ⟨oL, es, ep, hoL, hdL, hk, hfind⟩ := id hn
    have upA := up.trans up1
    obtain ⟨sl, hoL1⟩ := upA _ _ hoL (fun vs z => by rw [hdL] at z; cases z)
    have hn1 : h1.Ns X.env.locals m := ⟨_, es, ep, hoL1, hdL, hk, hfind⟩
    have hcls : (X.env.scope.kind == .class || (X.env.scope.kind == .module && X.env.locals != X.env.globals)) = false := by rw [ok.kind]; rfl
    have hbL : B.get? X.env.locals = none := by
      obtain ⟨_, _, ⟨_, ⟨L', _, hf', hb', _⟩, _⟩, _⟩ := hh
      rw [hf] at hf'
      rw [Option.some.inj hf']
      exact hb'
    refine wpAny_nameGoes_keeps (s := { s6 with heap := h1 }) hln hn1 hcls fun h5 v hn5 hs5 => ?_
    have hh5 := heldZ_gone hh hn1 hn5 hs5 hbL
    obtain ⟨o5, es5, ep5, ho5, hd5, hk5, hfind5⟩ := id hn5
    -- the state without the exception
    have hG : (sI.heap.update X.env.locals fun _ => o5).get? X.env.locals = some o5 := Heap.get?_update_self (fun _ => o5) hoL (by
      obtain ⟨c5, q5, t5, l5⟩ := o5
      cases hd5
      rfl)
    have hsG : Heap.SameBut X.env.locals sI.heap (sI.heap.update X.env.locals fun _ => o5) := Heap.SameBut.update _ _ _
    have IG := inv_gone I hN hi hn hlk (h' := sI.heap.update X.env.locals fun _ => o5) (v := v) ⟨o5, es5, ep5, hG, hd5, hk5, hfind5⟩ hsG
    have nbG : ∀ b o, (sI.heap.update X.env.locals fun _ => o5).get? b = some o → b ∉ frs X.stack → B.get? b = some o := fun b o e hb => by
      have hbn : b ≠ X.env.locals := fun z => hb (by rw [hs, z]; exact List.mem_filterMap.mpr ⟨X.env, List.mem_cons_self, hf⟩)
      rw [hsG.2 b hbn] at e
      exact nb b o e hb
    have upG : (sI.heap.update X.env.locals fun _ => o5).UpToSlots h5 := fun b o e hnf => by
      by_cases hbn : b = X.env.locals
      · rw [hbn, hG] at e
        cases e
        rw [hbn]
        exact ⟨o5.slots, ho5⟩
      · rw [hsG.2 b hbn] at e
        obtain ⟨sl2, e2⟩ := upA b o e hnf
        exact ⟨sl2, (hs5.2 b hbn).trans e2⟩
    obtain ⟨oe, vs, T, oT, ts, he, hc, hdd, h1', r⟩ := hh5.2.2.2
    unfold PySem.passOn
    refine wpAny_bind (wpAny_field he hdd h1' ?_)
    rw [if_neg (show ¬ ((Value.ref T == Value.none) = true) from by simp)]
    rw [hf]
    refine wpAny_bind (HandSPX.setFlight_onZ hh5 fun h6 hh6 up6 => ?_)
    refine wpAny_throw ?_
    show wpAny (model X.prog X.w) (X.A.mark hd) (noteFrame (.ref a) X.env) _ _ _
    refine HandSPX.againZ hf hh6.2.2.2 ?_
    obtain ⟨oe', vs', T', oT', ts', he', hc', hd', h1'', r'⟩ := id hh6.2.2.2
    show wpAny (model X.prog X.w) X.A (do
      if (← field (.ref a) 1) == .none then unsupported "frame.own-activation:exception-without-traceback"
      setFlight (.ref a) X.env.frame) _ _ _
    refine wpAny_bind (wpAny_field he' hd' h1'' ?_)
    rw [if_neg (show ¬ ((Value.ref T' == Value.none) = true) from by simp)]
    rw [hf]
    refine HandSPX.setFlight_onZ hh6 fun h7 hh7 up7 => ?_
    exact tk _ _ ⟨a, B, _, pins', _, H', cls, d, rfl, IG, nbG, (upG.trans up6).trans up7, .inr (.inr (by rw [hs]; exact hh7)), na, os, ag, w⟩
  rcases sky with ⟨hB, hn, hl, oe, vs, he, hz, hdd, h1⟩ | fl | hh
  · exact HandSPX.look_newZ Zc.steady hfr hl hf he hB hn hdd h1 hz rest
  · exact HandSPX.looks_onZ Zc.steady hfr hf fl rest
  · exact HandSPX.againZ hf hh.2.2.2 (rest s6.heap hh (Heap.UpToSlots.refl _))
end
end L2H

namespace L2H
open PySem PySem.Spec PyProof.Rows L2 HotX
/-- the context of such a suite -/
abbrev sX (X : Cx) (a : Addr) (pn : List (Addr × Obj)) (xe : Value → Shared → Prop) : Cx := { suiteX X a pn with xe := xe }
section
variable {X : Cx} {x n : Str} {c : Value} {i : Nat} {body suite : List Stmt} {b₀ : Stmt} {np pos pos' : Pos} {tb : WX → TS} {ts : Addr → Value → Option Addr → TS} {Wout : WX}
theorem sX_of {σ : L2.St} {H : Hp} {s : Shared} {a : Addr} {pn pn' : List (Addr × Obj)} {xe : Value → Shared → Prop} (I : Inv (X.suite a pn) pn' σ H s) : Inv (sX X a pn xe) pn' σ H s := (suiteX_of I).wish xe
theorem of_sX {σ : L2.St} {H : Hp} {s : Shared} {a : Addr} {pn pn' : List (Addr × Obj)} {xe : Value → Shared → Prop} (I : Inv (sX X a pn xe) pn' σ H s) : Inv (suiteX X a pn) pn' σ H s := Inv.unwish (X := suiteX X a pn) (E := xe) I
theorem ps_try_asX (hs : X.stack = X.env :: X.outer) (hf : X.env.frame = some X.env.locals) (hN : X.N.Nodup) (hi : X.N[i]? = some n) (hln : X.env.kindOf n = some .local) (hc : Names X x c) (tk : L2.Takes X Wout)
    (hb : ∀ (W : WX) (pn : List (Addr × Obj)) (xe : Value → Shared → Prop), L2N.Takes (X.tr pn xe) W → PassesOwn (model X.prog X.w) X.A X.env xe → PSs (X.tr pn xe) body (tb W))
    (hsu : ∀ (a : Addr) (oe : Obj) (cls : Value) (d : Option Addr) (pn : List (Addr × Obj)) (xe : Value → Shared → Prop), L2N.Zn cls d oe → (∃ vs, oe.data = .fields vs) → L2.Takes (sX X a ((a, oe) :: pn) xe) (fun cls d σ H => Wout cls d (σ.set i none) H) → HotC (sX X a ((a, oe) :: pn) xe) →
      PSs (sX X a ((a, oe) :: pn) xe) (b₀ :: suite) (ts a cls d)) :
    PS X (.Try body [.ExceptHandler (some (.Name x np)) (some n) (b₀ :: suite) pos'] [] [] pos) (fun D σ H => tb (wAs X.K c i ts Wout D) D σ H) := by
  refine ⟨fun pins s σ H D I h => ?_⟩
  have ok := I.ok
  have hfr : X.A.frames = some (X.env :: X.outer) := by rw [ok.frames, hs]
  have hloc : Loc X.env.scope n := .inl hln
  refine wpAny_Try_except ?_
  refine wpAny_mono ((hb (wAs X.K c i ts Wout D) (X.pn ++ pins) (fun e s₁ => wpAny (model X.prog X.w) X.A (noteFrame e X.env) (fun _ s₂ => wpAny (model X.prog X.w) X.A (setFlight e none) (fun _ s₃ =>
    wpAny (model X.prog X.w) X.A (handleBy e X.env [.ExceptHandler (some (.Name x np)) (some n) (b₀ :: suite) pos']) (SP X pins D) X.xe s₃) X.xe s₂) X.xe s₁) (fun u s' xx => ?_) PassesOwn.looking).run [] s σ H D (I.toTry _) h) (fun f s1 hsp => ?_) (fun e s1 he => he)
  · -- the catch
    obtain ⟨a, B, sI, pins', σ', H', cls, d, rfl, J', nb, up, sky, na, os, ag, b, hb1, hyes, hno⟩ := xx
    have J : Inv X pins σ' H' sI := J'.ofTry ok
    have sky' : Sky B (X.env :: X.outer) a (L2N.Zn cls d) X.env.locals s'.heap := by rw [← hs]; exact sky
    show wpAny (model X.prog X.w) X.A (noteFrame (.ref a) X.env) _ _ _
    refine L2N.Sky.land L2N.Zn.steady hfr hf sky' fun h3 fl3 up3 => ?_
    have J3 : Inv X pins σ' H' { s' with heap := h3 } := J.landed nb fl3.1 (up.trans up3) os ag
    obtain ⟨oe3, vs3, he3, hz3, hd3⟩ := fl3.there
    have notFr : ∀ {h : Heap} {o : Obj} {vs : Array Value}, h.FunFrames B (X.env :: X.outer) → h.get? a = some o → o.data = .fields vs → a ∉ frs (X.env :: X.outer) := fun {h o vs} ff e dd hm => by
      obtain ⟨_, o', e', hnf⟩ := ff.mem hm
      rw [e] at e'; cases e'
      exact hnf _ dd
    have nfr := notFr fl3.2.2.1 he3 hd3
    have nL : a ≠ X.env.locals := fun z => nfr (List.mem_filterMap.mpr ⟨X.env, List.mem_cons_self, by rw [hf, z]⟩)
    have nF : a ∉ X.fs := fun hm => by
      obtain ⟨e, he, q⟩ := List.mem_filterMap.mp hm
      exact nfr (List.mem_filterMap.mpr ⟨e, List.mem_cons_of_mem _ he, q⟩)
    have S3 := J3.suite he3 hd3 na nL nF
    refine wpAny_handleBy_cons (codeAny_handlers_test ?_) (by intro q; cases q)
    have LT : PySem.W.Looks (model X.prog X.w) h3 (typeOf (.ref a)) cls := fun A Q E s k q => wpAny_typeOf_ref (k _ _ he3) (by rw [hz3.1]; exact q)
    have LM := PySem.W.exm_one (M := model X.prog X.w) (J3.kIn) LT hb1
    have test : ∀ {Q : Value → Shared → Prop} {E : Value → Shared → Prop}, Q c { s' with heap := h3 } → wpAny (model X.prog X.w) (X.A.mark (some (.ref a))) (eval (.Name x np) X.env) Q E { s' with heap := h3 } := fun {Q E} q => by
      obtain ⟨hg, hdbg, hm | ⟨hm, hv, hnn⟩⟩ := hc
      · exact ld_glob (X := X.suite a ((a, oe3) :: (X.pn ++ pins))) S3 hg hm q hdbg
      · exact ld_blt (X := X.suite a ((a, oe3) :: (X.pn ++ pins))) S3 hg hm hv q hnn hdbg
    refine test (LM.here ?_)
    cases b with
    | true =>
      refine codeAny_handlers_suite_as ?_
      refine HandSPX.lands_againZ fl3 fun h4 fl4 up4 => ?_
      have J4 : Inv X pins σ' H' { s' with heap := h4 } := J.landed nb fl4.1 ((up.trans up3).trans up4) os ag
      obtain ⟨oe4, vs4, he4, hz4, hd4⟩ := fl4.there
      have S4 := J4.suite he4 hd4 na nL nF
      refine store_ok (X := X.suite a ((a, oe4) :: (X.pn ++ pins))) (v := .ref a) S4 hN hi hloc rfl (fun s5 S5 => ?_) (.inr hln)
      have hot : HotC (sX X a ((a, oe4) :: (X.pn ++ pins)) (fun u s' => L2.XE X (fun cls d σ H => Wout cls d (σ.set i none) H) u s')) := ⟨(a, oe4), ⟨rfl, vs4, hd4, hz4.2.2 vs4 hd4⟩, List.mem_cons_self⟩
      refine wpAny_mono ((hsu a oe4 cls d (X.pn ++ pins) (fun u s' => L2.XE X (fun cls d σ H => Wout cls d (σ.set i none) H) u s') hz4 ⟨_, hd4⟩ (fun u2 s2 x2 => ?_) hot).run [] s5 _ H' _ (sX_of S5) (hyes rfl a na)) (fun f s6 hsp => ?_) (fun u6 s6 z => ?_)
      · obtain ⟨a2, B2, sI2, pn2, σ2, H2, cls2, d2, e2, I2, nb2, up2, sky2, na2, os2, ag2, w2⟩ := x2
        exact ⟨a2, B2, sI2, pins, σ2, H2, cls2, d2, e2, unsuiteX (of_sX I2) ok, nb2, up2, sky2, na2, os2, ag2, w2⟩
      · have end_ : ∀ {σ6 : L2.St} {H6 : Hp} {Q : Shared → Prop}, Inv (sX X a ((a, oe4) :: (X.pn ++ pins)) (fun u s' => L2.XE X (fun cls d σ H => Wout cls d (σ.set i none) H) u s')) [] σ6 H6 s6 → (∀ s7, Inv X pins (σ6.set i none) H6 s7 → Q s7) →
            wpAny (model X.prog X.w) X.A (do bindName X.env n .none; unbindBehindTheSuite X.env n pos') (fun _ s7 => Q s7) X.xe s6 := fun {σ6 H6 Q} S6 hq => gone_ok (unsuiteX (of_sX S6) ok) hN hi hln hq
        cases f with
        | next =>
          obtain ⟨σ6, H6, S6, q6⟩ := hsp
          exact end_ S6 fun s7 J7 => ⟨_, _, J7, q6⟩
        | brk =>
          obtain ⟨σ6, H6, S6, q6⟩ := hsp
          exact end_ S6 fun s7 J7 => ⟨_, _, J7, q6⟩
        | cont =>
          obtain ⟨σ6, H6, S6, q6⟩ := hsp
          exact end_ S6 fun s7 J7 => ⟨_, _, J7, q6⟩
        | ret u =>
          obtain ⟨v6, σ6, H6, S6, r6, q6⟩ := hsp
          exact end_ S6 fun s7 J7 => ⟨_, _, _, J7, r6, q6⟩
      · exact as_raised hs hf hN hi hln tk z
    | false =>
      show wpAny _ X.A (handleBy (.ref a) X.env []) _ _ _
      refine wpAny_handleBy_nil ?_
      obtain ⟨k1, k2, k3, oe, vs, T, oT, ts', he, hz, hd, h1, hr⟩ := id fl3
      unfold PySem.passOn
      refine wpAny_bind (wpAny_field he hd h1 ?_)
      rw [if_neg (show ¬ ((Value.ref T == Value.none) = true) from by simp)]
      have fin : wpAny (model X.prog X.w) X.A (setFlight (.ref a) X.env.frame) (fun _ s4 => wpAny (model X.prog X.w) X.A (throw (.ref a) : Sem Flow) (SP X pins D) X.xe s4) X.xe { s' with heap := h3 } := by
        rw [hf]
        refine HandSPX.setFlight_upZ (flyingZ_imp (fun o z => z.zc) fl3) fun h4 hh4 up4 => wpAny_throw (tk _ _ ?_)
        exact ⟨a, B, sI, pins, σ', H', cls, d, rfl, J, nb, (up.trans up3).trans up4, .inr (.inr (by rw [hs]; exact hh4)), na, os, ag, hno rfl⟩
      first
        | exact wpAny_bind (wpAny_pure (wpAny_bind fin))
        | exact wpAny_bind fin
  · cases f with
    | next =>
      obtain ⟨σ', H', J', q⟩ := hsp
      exact wpAny_execs_nil ⟨σ', H', J'.ofTry ok, q⟩
    | brk =>
      obtain ⟨σ', H', J', q⟩ := hsp
      exact ⟨σ', H', J'.ofTry ok, q⟩
    | cont =>
      obtain ⟨σ', H', J', q⟩ := hsp
      exact ⟨σ', H', J'.ofTry ok, q⟩
    | ret u =>
      obtain ⟨v, σ', H', J', r, q⟩ := hsp
      exact ⟨v, σ', H', J'.ofTry ok, r, q⟩
end
end L2H

/-! several except clauses with a name -/
namespace L2H
open PySem PySem.Spec PyProof.Rows L2 HotX
/-- what the clauses wish of an exception of the body, one after the other -/
def wManyAs (K : PySem.W.Frag) (i : Nat) (Wout : WX) (D : Ends) : List (Value × (Addr → Value → Option Addr → TS)) → WX
  | [] => Wout
  | (c, ts) :: r => fun cls d σ H => ∃ b, PySem.W.exmOne K cls c = some b ∧ (b = true → ∀ a, H a = none → ts a cls d { nx := fun σ' H' => D.nx (σ'.set i none) H', rt := D.rt, bk := fun σ' H' => D.bk (σ'.set i none) H', ct := fun σ' H' => D.ct (σ'.set i none) H' } (σ.set i (some (.ref a))) H) ∧ (b = false → wManyAs K i Wout D r cls d σ H)
inductive HdsOkN (X : Cx) (n : Str) : List ExceptHandler → List (Value × (Addr → Value → Option Addr → TS)) → Prop
  | nil : HdsOkN X n [] []
  | cons {x : Str} {c : Value} {ts : Addr → Value → Option Addr → TS} {b₀ : Stmt} {suite : List Stmt} {np pos' : Pos} {hds : List ExceptHandler} {l : List (Value × (Addr → Value → Option Addr → TS))} (hc : Names X x c)
      (hsu : ∀ (a : Addr) (oe : Obj) (cls : Value) (d : Option Addr) (pn : List (Addr × Obj)), Zc cls d oe → (∃ vs, oe.data = .fields vs) → PSs (X.suite a ((a, oe) :: pn)) (b₀ :: suite) (ts a cls d)) (r : HdsOkN X n hds l) :
      HdsOkN X n (.ExceptHandler (some (.Name x np)) (some n) (b₀ :: suite) pos' :: hds) ((c, ts) :: l)
section
variable {X : Cx} {n : Str} {i : Nat} {body : List Stmt} {h₀ : ExceptHandler} {hds : List ExceptHandler} {l : List (Value × (Addr → Value → Option Addr → TS))} {pos : Pos} {tb : WX → TS} {Wout : WX}
theorem ps_try_manyAs (hs : X.stack = X.env :: X.outer) (hf : X.env.frame = some X.env.locals) (hN : X.N.Nodup) (hi : X.N[i]? = some n) (hln : X.env.kindOf n = some .local) (tk : Takes X Wout)
    (hb : ∀ (W : WX) (pn : List (Addr × Obj)) (xe : Value → Shared → Prop), Takes (X.tr pn xe) W → PassesOwn (model X.prog X.w) X.A X.env xe → PSs (X.tr pn xe) body (tb W))
    (hh : HdsOkN X n (h₀ :: hds) l) : PS X (.Try body (h₀ :: hds) [] [] pos) (fun D σ H => tb (wManyAs X.K i Wout D l) D σ H) := by
  refine ⟨fun pins s σ H D I h => ?_⟩
  have ok := I.ok
  have hloc : Loc X.env.scope n := .inl hln
  have hfr : X.A.frames = some (X.env :: X.outer) := by rw [ok.frames, hs]
  refine wpAny_Try_except ?_
  refine wpAny_mono ((hb (wManyAs X.K i Wout D l) (X.pn ++ pins) (fun e s₁ => wpAny (model X.prog X.w) X.A (noteFrame e X.env) (fun _ s₂ => wpAny (model X.prog X.w) X.A (setFlight e none) (fun _ s₃ =>
    wpAny (model X.prog X.w) X.A (handleBy e X.env (h₀ :: hds)) (SP X pins D) X.xe s₃) X.xe s₂) X.xe s₁) (fun u s' xx => ?_) PassesOwn.looking).run [] s σ H D (I.toTry _) h) (fun f s1 hsp => ?_) (fun e s1 he => he)
  · -- the catch
    obtain ⟨a, B, sI, pins', σ', H', cls, d, rfl, J', nb, up, sky, na, os, ag, w⟩ := xx
    have J : Inv X pins σ' H' sI := J'.ofTry ok
    have sky' : Sky B (X.env :: X.outer) a (Zc cls d) X.env.locals s'.heap := by rw [← hs]; exact sky
    show wpAny (model X.prog X.w) X.A (noteFrame (.ref a) X.env) _ _ _
    refine Sky.land Zc.steady hfr hf sky' fun h3 fl3 up3 => ?_
    have J3 : Inv X pins σ' H' { s' with heap := h3 } := J.landed nb fl3.1 (up.trans up3) os ag
    obtain ⟨oe3, vs3, he3, hz3, hd3⟩ := fl3.there
    have notFr : ∀ {h : Heap} {o : Obj} {vs : Array Value}, h.FunFrames B (X.env :: X.outer) → h.get? a = some o → o.data = .fields vs → a ∉ frs (X.env :: X.outer) := fun {h o vs} ff e dd hm => by
      obtain ⟨_, o', e', hnf⟩ := ff.mem hm
      rw [e] at e'; cases e'
      exact hnf _ dd
    have nfr := notFr fl3.2.2.1 he3 hd3
    have nL : a ≠ X.env.locals := fun z => nfr (List.mem_filterMap.mpr ⟨X.env, List.mem_cons_self, by rw [hf, z]⟩)
    have nF : a ∉ X.fs := fun hm => by
      obtain ⟨e, he, q⟩ := List.mem_filterMap.mp hm
      exact nfr (List.mem_filterMap.mpr ⟨e, List.mem_cons_of_mem _ he, q⟩)
    have S3 := J3.suite he3 hd3 na nL nF
    have go : ∀ {hds' : List ExceptHandler} {l' : List (Value × (Addr → Value → Option Addr → TS))}, HdsOkN X n hds' l' → wManyAs X.K i Wout D l' cls d σ' H' →
        wpAny (model X.prog X.w) X.A (handleBy (.ref a) X.env hds') (SP X pins D) X.xe { s' with heap := h3 } := by
      intro hds' l' hk
      induction hk with
      | nil =>
        intro w
        refine wpAny_handleBy_nil ?_
        obtain ⟨k1, k2, k3, oe, vs, T, oT, ts', he, hz, hd, h1, hr⟩ := id fl3
        unfold PySem.passOn
        refine wpAny_bind (wpAny_field he hd h1 ?_)
        rw [if_neg (show ¬ ((Value.ref T == Value.none) = true) from by simp)]
        have fin : wpAny (model X.prog X.w) X.A (setFlight (.ref a) X.env.frame) (fun _ s4 => wpAny (model X.prog X.w) X.A (throw (.ref a) : Sem Flow) (SP X pins D) X.xe s4) X.xe { s' with heap := h3 } := by
          rw [hf]
          refine HandSPX.setFlight_upZ fl3 fun h4 hh4 up4 => wpAny_throw (tk _ _ ?_)
          exact ⟨a, B, sI, pins, σ', H', cls, d, rfl, J, nb, (up.trans up3).trans up4, .inr (.inr (by rw [hs]; exact hh4)), na, os, ag, w⟩
        first
          | exact wpAny_bind (wpAny_pure (wpAny_bind fin))
          | exact wpAny_bind fin
      | @cons x c ts b₀ suite np pos' hds2 l2 hc hsu r ih =>
        intro w
        obtain ⟨b, hb1, hyes, hno⟩ := w
        refine wpAny_handleBy_cons (codeAny_handlers_test ?_) (by intro q; cases q)
        have LT : PySem.W.Looks (model X.prog X.w) h3 (typeOf (.ref a)) cls := fun A Q E s k q => wpAny_typeOf_ref (k _ _ he3) (by rw [hz3.1]; exact q)
        have LM := PySem.W.exm_one (M := model X.prog X.w) (J3.kIn) LT hb1
        have test : ∀ {Q : Value → Shared → Prop} {E : Value → Shared → Prop}, Q c { s' with heap := h3 } → wpAny (model X.prog X.w) (X.A.mark (some (.ref a))) (eval (.Name x np) X.env) Q E { s' with heap := h3 } := fun {Q E} q => by
          obtain ⟨hg, hdbg, hm | ⟨hm, hv, hnn⟩⟩ := hc
          · exact ld_glob (X := X.suite a ((a, oe3) :: (X.pn ++ pins))) S3 hg hm q hdbg
          · exact ld_blt (X := X.suite a ((a, oe3) :: (X.pn ++ pins))) S3 hg hm hv q hnn hdbg
        refine test (LM.here ?_)
        cases b with
        | true =>
          refine codeAny_handlers_suite_as ?_
          refine HandSPX.lands_againZ fl3 fun h4 fl4 up4 => ?_
          have J4 : Inv X pins σ' H' { s' with heap := h4 } := J.landed nb fl4.1 ((up.trans up3).trans up4) os ag
          obtain ⟨oe4, vs4, he4, hz4, hd4⟩ := fl4.there
          have S4 := J4.suite he4 hd4 na nL nF
          refine store_ok (X := X.suite a ((a, oe4) :: (X.pn ++ pins))) (v := .ref a) S4 hN hi hloc rfl (fun s5 S5 => ?_) (.inr hln)
          refine wpAny_mono ((hsu a oe4 cls d (X.pn ++ pins) hz4 ⟨_, hd4⟩).run [] s5 _ H' _ S5 (hyes rfl a na)) (fun f s6 hsp => ?_) (fun _ _ z => False.elim z)
          have end_ : ∀ {σ6 : L2.St} {H6 : Hp} {Q : Shared → Prop}, Inv (X.suite a ((a, oe4) :: (X.pn ++ pins))) [] σ6 H6 s6 → (∀ s7, Inv X pins (σ6.set i none) H6 s7 → Q s7) →
              wpAny (model X.prog X.w) X.A (do bindName X.env n .none; unbindBehindTheSuite X.env n pos') (fun _ s7 => Q s7) X.xe s6 := fun {σ6 H6 Q} S6 hq => gone_ok (S6.unsuite ok) hN hi hln hq
          cases f with
          | next =>
            obtain ⟨σ6, H6, S6, q6⟩ := hsp
            exact end_ S6 fun s7 J7 => ⟨_, _, J7, q6⟩
          | brk =>
            obtain ⟨σ6, H6, S6, q6⟩ := hsp
            exact end_ S6 fun s7 J7 => ⟨_, _, J7, q6⟩
          | cont =>
            obtain ⟨σ6, H6, S6, q6⟩ := hsp
            exact end_ S6 fun s7 J7 => ⟨_, _, J7, q6⟩
          | ret u =>
            obtain ⟨v6, σ6, H6, S6, r6, q6⟩ := hsp
            exact end_ S6 fun s7 J7 => ⟨_, _, _, J7, r6, q6⟩
        | false =>
          show wpAny _ X.A (handleBy (.ref a) X.env hds2) _ _ _
          exact ih (hno rfl)
    exact go hh w
  · cases f with
    | next =>
      obtain ⟨σ', H', J', q⟩ := hsp
      exact wpAny_execs_nil ⟨σ', H', J'.ofTry ok, q⟩
    | brk =>
      obtain ⟨σ', H', J', q⟩ := hsp
      exact ⟨σ', H', J'.ofTry ok, q⟩
    | cont =>
      obtain ⟨σ', H', J', q⟩ := hsp
      exact ⟨σ', H', J'.ofTry ok, q⟩
    | ret u =>
      obtain ⟨v, σ', H', J', r, q⟩ := hsp
      exact ⟨v, σ', H', J'.ofTry ok, r, q⟩
end
end L2H

/-! own exceptions with an __init__, made while one is handled; made where the context must be known -/
namespace ExQ
open PySem PySem.Spec PyProof.Rows L2 NdefX L2H
section
variable {X : Cx} {pins : List (Addr × Obj)} {σ : L2.St} {H : Hp} {s : Shared} {a C D f cc : Addr} {F : NF} {v : Value} {body : List Stmt}
/-- super().__init__(y), the own __init__ at f2 behind D -/
theorem st_ownH {CX : CXT} {k f2 : Nat} {fd2 : FuncData} {ps2 : List Str} {sp : Sp} {p0 p1 p2 p3 p4 p5 : Pos} {y : Str} {p : V} {Q : Flow → Shared → Prop} (I : Inv X [] σ H s) (N : Ini X.prog X.K D f cc F) (S : Sup X.K C D (.ref f2))
    (F2 : FnH X.prog X.w X.K X.mg X.base CX k f2 fd2 ps2 sp) (hr : RoomH k X.A) (hc9 : HotC X) (hb : Binds X.K fd2 ps2 []) (hx : Passes CX X (fun _ _ _ => False)) (ty : PySem.W.typeIn X.K (.ref f2) = some (.type "function")) (fi : PySem.W.fnIn X.K f2 = true)
    (ms : X.mg "super" = none) (hfu : X.env.func = some f) (hco : X.env.code = .ref F.c) (hce : X.env.cells = F.cl)
    (hk1 : X.env.kindOf "super" = some .globalImplicit) (hk2 : X.env.kindOf "__class__" = some .free) (hk3 : X.env.kindOf "self" = some .local)
    (h0 : X.N[0]? = some ("self" : Str)) (hs0 : σ[0]? = some (some (.ref a))) (h1 : X.N[1]? = some y) (hv1 : Vis X.env.scope y) (hd : (y == ("__debug__" : Str)) = false) (hcd : (y == ("__classdict__" : Str)) = false)
    (hs1 : σ[1]? = some (some p)) (e : H a = some (exo a C none))
    {pl : Sem Bool} (hev : eval (.Call (.Attribute (.Call (.Name "super" p0) [] [] p1) "__init__" p2) [.Name y p3] [] p4) X.env = (do
      let ov ← attributeBase (.Call (.Name "super" p0) [] [] p1) "__init__" X.env (eval (.Call (.Name "super" p0) [] [] p1) X.env)
      standAt p2.atName
      let (f, first) ← holding [ov] (getMethod ov "__init__" pl)
      callWith p4 f first (backTo p4 (starEach [.Name y p3] X.env)) []))
    (hin : interactive X.env = false) (hsw : swapsWith (.Call (.Attribute (.Call (.Name "super" p0) [] [] p1) "__init__" p2) [.Name y p3] [] p4) none p5.line X.env = pure false)
    (h : sp [.ref a, p] H (fun _ H' => ∀ s', Inv X [] σ H' s' → Q .next s') (fun _ _ _ => False)) :
    _root_.PySem.wpAt (model X.prog X.w) X.A (.func body X.env) (exec (.Expr (.Call (.Attribute (.Call (.Name "super" p0) [] [] p1) "__init__" p2) [.Name y p3] [] p4) p5) X.env) Q X.xe s := by
  obtain ⟨pn, hot, hpn⟩ := hc9
  refine ks_wpAt_Expr_any (ks_wpAt_MethodCall (sup_base I N S ms hfu hco hce hk1 hk2 hk3 h0 hs0 e fun h' hso k => ?_) hev) hin hsw
  have J : Inv X [] σ H { s with heap := h' } := I.kept (t' := s.toks) k
  obtain ⟨t1, ha⟩ := exo_inst J e
  obtain ⟨hh, g, d, t, os⟩ := s
  have K1 := J.kIn
  have IA : PySem.W.InstAt h' a ({ cls := .ref C, dict := none, data := .fields #[.ref t1, .none, .none, .none, .bool false, .none] } : Obj) C none := ⟨ha, rfl, rfl, trivial⟩
  obtain ⟨of, hof, hofc⟩ : ∃ of, h'.get? f2 = some of ∧ of.cls = .type "function" := by
    have ht' : (X.K.lookup f2).map (·.cls) = some (.type "function") := ty
    cases z : X.K.lookup f2 with
    | none => rw [z] at ht'; cases ht'
    | some of => rw [z] at ht'; exact ⟨of, K1 _ _ z, Option.some.inj ht'⟩
  cases hc : PySem.W.clsIn X.K C with
  | none =>
    have z := S.sup
    unfold PySem.W.ks_superIn at z
    rw [hc] at z
    cases z
  | some cd =>
    have z := S.sup
    unfold PySem.W.ks_superIn at z
    rw [hc] at z
    refine ks_wpAny_getMethod_super hso (PySem.W.looks_opaque K1 S.opq) (l₀ := cd.mro) ?_ rfl K1 z hof hofc (PySem.W.ks_ne K1 IA hc) (by decide) ?_
    · exact fun A Q E s k q => wpAny_bind ((PySem.W.looks_clsIn K1 hc) A _ E s k (wpAny_pure q))
    · have k2 : ∀ b o, h'.get? b = some o → (h'.push (PySem.W.methodObj (.ref f2) (.ref a))).get? b = some o := fun b o q => Heap.get?_push_of_some _ q
      have J2 : Inv X [] σ H ⟨h'.push (PySem.W.methodObj (.ref f2) (.ref a)), g, d, t + 1, os⟩ := J.kept (t' := t + 1) k2
      have J3 : Inv X [(h'.objs.size, PySem.W.methodObj (.ref f2) (.ref a))] σ H ⟨h'.push (PySem.W.methodObj (.ref f2) (.ref a)), g, d, t + 1, os⟩ := J2.pins_of fun q hq => by
        obtain rfl : q = (h'.objs.size, PySem.W.methodObj (.ref f2) (.ref a)) := by simpa using hq
        exact ⟨Heap.get?_push_at rfl rfl, J.hok.fresh (Nat.le_refl _), Ne.symm (Nat.ne_of_lt J.lt), J.nofs (Nat.le_refl _), fun v z => by cases z⟩
      refine PySem.W.callWith_of (P := PySem.W.MethP X.K h'.objs.size f2 (.ref a)) (first := []) (args := backTo p4 (starEach [.Name y p3] X.env)) (by rfl) (PySem.W.keeps_M fi) ?_
      have pa : PA X [.Name y p3] (tCons (tVar 1) tNil) := pa_cons (pe_var h1 hv1 hd hcd) pa_nil
      refine Calls.evalArgs_plain (thn (pa.run p4 _ _ σ H (fun vs H' => vs = [p] ∧ H' = H) J3 ⟨p, hs1, rfl, rfl⟩) fun us s1 ⟨vs, H1, I1, r1, hv, hH⟩ => ?_)
      subst hv hH
      have hq := (I1.pin (h'.objs.size, PySem.W.methodObj (.ref f2) (.ref a)) (List.mem_append_right _ (List.mem_cons_self ..))).1
      refine ⟨⟨hq, I1.kIn⟩, ?_⟩
      have I2 : Inv X [] σ H1 s1 := I1.pins_of fun q hq => nomatch hq
      refine wpAny_call (ks_codeAny_call_bound hq ?_)
      have r2 : Vals [.ref a, p] (Value.ref a :: us) := .cons rfl r1
      have hl : (Value.ref a :: us).length = ps2.length := by rw [← r2.length]; exact F2.len _ _ _ _ h
      have r3 : (Value.ref a :: us) = (Value.ref a :: us) ++ ([] : List Value) := (List.append_nil _).symm
      have bb := hb s1 (Value.ref a :: us) I2.kIn (by rw [List.append_nil]; exact hl)
      rw [List.append_nil] at bb
      show codeAny _ _ (.call (.ref f2) ⟨Value.ref a :: us, []⟩) _ _
      have P1 := I2.pin pn (List.mem_append_left _ hpn)
      have hpin : PinOk X.stack H1 s1 pn := ⟨P1.1, P1.2.1, fun hmm => (List.mem_cons.mp (I2.stkSub pn.1 hmm)).elim P1.2.2.1 P1.2.2.2.1, P1.2.2.2.2⟩
      refine codeAny_mono (F2.run X.A X.stack s1 H1 ⟨Value.ref a :: us, []⟩ (Value.ref a :: us) [.ref a, p] _ _ pn hr hot hpin I2.env0 bb r2 h) fun r s' hq => ?_
      cases r with
      | error e => exact hx [] σ H1 s1 e s' I2 hq
      | ok fl =>
        cases fl with
        | ret u =>
          obtain ⟨v', H', J', rv, q⟩ := I2.after (σ := σ) hq
          exact q s' J'
        | next => exact False.elim hq
        | brk => exact False.elim hq
        | cont => exact False.elim hq
end
section
variable {CX : CXT} {P : Program} {w : World} {K : PySem.W.Frag} {mg : Str → Option Value} {base : Heap} {f cc D : Addr} {F : NF} {k : Nat} {sp : Sp} {y : Str}
/-- THE RULE: an own __init__ by its body, whose first statement is super().__init__(..) -/
theorem ini_okH (Ni : Ini P K D f cc F) (S : NScope ["self", y, "__class__"] ["self", y] ["__class__"] F.scope) (hb : ∀ (doc pm ctv : Value) (us : List Value), us.length = 2 → bindArgs (F.fd doc pm ctv) ⟨us, []⟩ = pure ((["self", y] : List Str).zip us)) (len : ∀ vs H Q E, sp vs H Q E → vs.length = 2)
    (hbody : ∀ (A : Around) (outer : List Env) (s : Shared) (H : Hp) (vs : List V) (Q : VK) (E : XK) (p : Addr × Obj), Hot1 A p → RoomH k (A.deeper (envF F f s.heap.objs.size)) → sp vs H Q E →
      ∀ s1, Inv (ncxH CX P w K mg base ["self", y, "__class__"] F f A outer s H E p) [] (startF ["self", y, "__class__"] vs [some (.ref D)]) H s1 →
        _root_.PySem.wpAt (model P w) (A.deeper (envF F f s.heap.objs.size)) (.func F.body (envF F f s.heap.objs.size)) (execs F.body (envF F f s.heap.objs.size))
          (SP (ncxH CX P w K mg base ["self", y, "__class__"] F f A outer s H E p) [] { nx := fun _ H' => Q .non H', rt := Q }) (ncxH CX P w K mg base ["self", y, "__class__"] F f A outer s H E p).xe s1) :
    ∃ fd, FnH P w K mg base CX (k + 1) f fd ["self", y] sp ∧ Binds K fd ["self", y] [] := by
  obtain ⟨oc, od, sl, doc, pm, ctv, lk⟩ := Ni.lk
  obtain ⟨ocell, hcell, hcd⟩ := Ni.cell
  refine ⟨F.fd doc pm ctv, ⟨fun vs H Q E h => len vs H Q E h, fun A outer s H args us vs Q E p hr hot hpin e0 hbind r hsp => ?_⟩, .all fun us hl => hb doc pm ctv us hl⟩
  have hl := len _ _ _ _ hsp
  have kb : ∀ b o, base.get? b = some o → s.heap.get? b = some o := fun b o e => (e0.bs b o e).1
  have lim : s.heap.NoLimit := e0.mod.nolimit.keeps kb
  have K0 : K.In s.heap := e0.mod.kin.keeps kb
  have hC : CellsAt F.cl ["__class__"] [some (.ref D)] s.heap H := by
    have hcc := e0.bs _ _ (e0.mod.kin _ _ hcell)
    have one : ∀ z c, F.cl.lookup z = some c → z = ("__class__" : Str) ∧ c = cc := fun z c q => by
      rw [Ni.cl] at q
      by_cases hz : z = ("__class__" : Str)
      · subst hz
        have q' : some cc = some c := q
        cases q'
        exact ⟨rfl, rfl⟩
      · have e1 : (z == ("__class__" : Str)) = false := by simpa using hz
        simp [List.lookup, e1] at q
    refine ⟨rfl, fun z c q => ?_, fun x z c q1 q2 => (one _ _ q1).1.trans (one _ _ q2).1.symm, fun i z hz => ?_⟩
    · obtain ⟨_, rfl⟩ := one z c q
      exact ⟨hcc.2, _, _, hcc.1, hcd⟩
    · match i, hz with
      | 0, hz =>
        have hz' : some ("__class__" : Str) = some z := hz
        cases hz'
        refine ⟨cc, by rw [Ni.cl]; rfl, fun v hv => ?_⟩
        have hv' : some (some (V.ref D)) = some (some v) := hv
        cases hv'
        exact ⟨_, rfl, _, hcc.1, hcd⟩
      | i + 1, hz =>
        have hz' : (none : Option Str) = some z := by simpa using hz
        cases hz'
  refine ks_codeAny_call_defAt (body := F.body) hr.depth (K0 _ _ lk) rfl lim (PySem.W.codeRec_of K0 Ni.code) rfl hbind S.nocell (fun ⟨n, _⟩ hy => S.par n (List.of_mem_zip hy).1) (fun h0 hns hk => ?_) S.co S.gen S.kind
  have I : Inv (ncxH CX P w K mg base ["self", y, "__class__"] F f A outer s H E p) [] (startF ["self", y, "__class__"] vs [some (.ref D)]) H { s with heap := h0, toks := s.toks + ((["self", y] : List Str).zip us).length } := inv_startNH S hpin e0 hl r hC hns hk
  refine ks_wpAt_mono (hbody A outer s H vs Q E p hot (hr.deeper _) hsp _ I) (fun fl s' hs => ?_) fun e s' hs => hs
  have fin : ∀ {sg : L2.St} {H' : Hp} {v : V} {u : Value}, Inv (ncxH CX P w K mg base ["self", y, "__class__"] F f A outer s H E p) [] sg H' s' → L2.RelV v u → Q v H' → CE outer P w H s Q u s' :=
    fun {sg H' v u} J rv q => ⟨v, H', J.os, J.bare, J.base, J.hok, rv, q⟩
  cases fl with
  | ret u =>
    obtain ⟨v, sg, H', J, rv, q⟩ := hs
    exact fin J rv q
  | next =>
    obtain ⟨sg, H', J, q⟩ := hs
    exact fin (v := V.non) (u := Value.none) J rfl q
  | brk =>
    obtain ⟨_, _, _, q⟩ := hs
    exact False.elim q
  | cont =>
    obtain ⟨_, _, _, q⟩ := hs
    exact False.elim q
end
section
variable {CX : CXT} {P : Program} {w : World} {K : PySem.W.Frag} {mg : Str → Option Value} {base : Heap} {f cc D : Addr} {name qual nm nb : Str} {c : Addr} {cl : List (Str × Addr)} {k : Nat}
theorem init_baseH {a1 a2 p0 p1 p2 p3 p4 p5 q1 q2 q3 q4 r1 r2 r3 r4 : Pos} {u : Nat}
    (Ni : Ini P K D f cc ⟨name, qual, parI a1 a2, [supSt p0 p1 p2 p3 p4 p5, .Assign [.Attribute (.Name "self" q1) "place" q2] (.Name "place" q3) q4, .Assign [.Attribute (.Name "self" r1) "name" r2] (.Constant (.str nm) u r3) r4], scI, cl, c⟩) (hl : (p2.endLine == p4.line) = true) (ms : mg "super" = none) :
    ∃ fd, FnH P w K mg base CX (k + 1) f fd ["self", "place"] (spB K D nm) ∧ Binds K fd ["self", "place"] [] := by
  refine ini_okH Ni scI_ok (fun _ _ _ us hl => match us, hl with | [_, _], _ => rfl) (fun vs H Q E h => ?_) fun A outer s H vs Q E pp hot hr hsp s1 I => ?_
  · obtain ⟨a, C, p, rfl, _⟩ := h
    rfl
  obtain ⟨a, C, p, rfl, B, e, q⟩ := hsp
  refine ks_wpAt_execs_cons ?_
  refine st_base I Ni B.sup B.oex B.sv ms rfl rfl rfl rfl rfl rfl rfl rfl rfl (.inl rfl) (by decide) (by decide) rfl e (ev_line hl) rfl rfl fun s' I' => ?_
  have d : PSs (ncxH CX P w K mg base ["self", "place", "__class__"] ⟨name, qual, parI a1 a2, [supSt p0 p1 p2 p3 p4 p5, .Assign [.Attribute (.Name "self" q1) "place" q2] (.Name "place" q3) q4, .Assign [.Attribute (.Name "self" r1) "name" r2] (.Constant (.str nm) u r3) r4], scI, cl, c⟩ f A outer s H E pp)
      [.Assign [.Attribute (.Name "self" q1) "place" q2] (.Name "place" q3) q4, .Assign [.Attribute (.Name "self" r1) "name" r2] (.Constant (.str nm) u r3) r4] _ :=
    pss_cons (ps_ost (pe_var (i := 0) rfl (.inl rfl)) (pe_var (i := 1) rfl (.inl rfl))) (pss_one (ps_ost (pe_var (i := 0) rfl (.inl rfl)) pe_str))
  refine _root_.PySem.wpAt_of_wpAny (d.run [] s' _ H _ I' ?_)
  refine ⟨p, rfl, .ref a, rfl, a, C, rfl, B.oex, B.np, .inl ⟨e, fun dx hdx ne => ?_⟩⟩
  refine ⟨.ref a, rfl, a, C, rfl, B.oex, B.nn, .inr ⟨dx, _, upd_same, mkd_dx ne, (show 1 ≤ 900 by decide), ?_⟩⟩
  show Q .non _
  rw [show upd (upd H dx (exd dx [("place", p)])) a (exo a C (some dx)) = mkd H dx a C [("place", p)] from rfl, mkd_upd ne]
  exact q dx hdx ne
theorem init_ownH {a1 a2 p0 p1 p2 p3 p4 p5 r1 r2 r3 r4 : Pos} {u : Nat} {C f2 D0 : Addr} {fd2 : FuncData}
    (Ni : Ini P K C f cc ⟨name, qual, parI a1 a2, [supSt p0 p1 p2 p3 p4 p5, .Assign [.Attribute (.Name "self" r1) "name" r2] (.Constant (.str nm) u r3) r4], scI, cl, c⟩) (hl : (p2.endLine == p4.line) = true) (ms : mg "super" = none)
    (B : BC K C D0) (S : Sup K C C (.ref f2)) (F2 : FnH P w K mg base CX0 k f2 fd2 ["self", "place"] (spB K D0 nb)) (hb : Binds K fd2 ["self", "place"] []) (ty : PySem.W.typeIn K (.ref f2) = some (.type "function")) (fi : PySem.W.fnIn K f2 = true) :
    ∃ fd, FnH P w K mg base CX (k + 1) f fd ["self", "place"] (spD C nm nb) ∧ Binds K fd ["self", "place"] [] := by
  refine ini_okH Ni scI_ok (fun _ _ _ us hl => match us, hl with | [_, _], _ => rfl) (fun vs H Q E h => ?_) fun A outer s H vs Q E pp hot hr hsp s1 I => ?_
  · obtain ⟨a, p, rfl, _⟩ := h
    rfl
  obtain ⟨a, p, rfl, e, q⟩ := hsp
  refine ks_wpAt_execs_cons ?_
  refine st_ownH (C := C) I Ni S F2 hr ⟨pp, hot, List.mem_cons_self⟩ hb (by exact pass0) ty fi ms rfl rfl rfl rfl rfl rfl rfl rfl rfl (.inl rfl) (by decide) (by decide) rfl e (ev_line hl) rfl rfl ?_
  refine ⟨a, C, p, rfl, B, e, fun dx hdx ne s' I' => ?_⟩
  have d : PSs (ncxH CX P w K mg base ["self", "place", "__class__"] ⟨name, qual, parI a1 a2, [supSt p0 p1 p2 p3 p4 p5, .Assign [.Attribute (.Name "self" r1) "name" r2] (.Constant (.str nm) u r3) r4], scI, cl, c⟩ f A outer s H E pp)
      [.Assign [.Attribute (.Name "self" r1) "name" r2] (.Constant (.str nm) u r3) r4] _ :=
    pss_one (ps_ost (pe_var (i := 0) rfl (.inl rfl)) pe_str)
  refine _root_.PySem.wpAt_of_wpAny (d.run [] s' _ _ _ I' ?_)
  refine ⟨.ref a, rfl, a, C, rfl, B.oex, B.nn, .inr ⟨dx, _, mkd_a, mkd_dx ne, (show 2 ≤ 900 by decide), ?_⟩⟩
  show Q .non _
  rw [mkd_upd ne]
  exact q dx hdx ne
end
end ExQ

namespace L2H
open PySem PySem.Spec PyProof.Rows L2 HotX
theorem pmk5_oexC {X : Cx} {CX : CXT} {x : Str} {e : Expr} {es : List Expr} {ta : TA} {p pos : Pos} {C fI : Addr} {k : Nat} {fd : FuncData} {ps : List Str} {sp : Sp} (T : OexC X.K C) (iC : PySem.W.findIn X.K (.ref C) "__init__" = some (some (.ref fI))) (tI : PySem.W.typeIn X.K (.ref fI) = some (.type "function"))
    (F1 : FnOk X.prog X.w X.K X.mg X.base CX k fI fd ps sp) (hr : Room (k + 1) X.A) (hb : Binds X.K fd ps []) (hx : Passes CX X (fun _ _ _ => False)) (hg : Gl X x) (hm : X.mg x = some (.ref C)) (ha : PA X (e :: es) ta)
    (hdb : (x == ("__debug__" : Str)) = false := by decide) (he : starEach (e :: es) X.env = (false, eval e X.env) :: starEach es X.env := by rfl) (hpl : (backTo pos (starEach es X.env)).any (·.1) = false := by rfl) :
    PMk5 X (.Call (.Name x p) (e :: es) [] pos) (tMkO C sp [] ta) := by
  intro pins s σ H Q I h
  obtain ⟨nm, q, N, bs, bm, sn, sub, ab, col, dd, k0, k1, k2, k3, k5, hC, hbm⟩ := T.cls
  refine wpAny_Call_Name_kw (ld_glob I hg hm ?_ hdb)
  refine PySem.W.callWith_K (h₀ := X.base) I.ok.mod.kin T.kC (thn (ha.run pos pins s σ H _ I h) fun us s1 ⟨vs, H1, I1, r1, hz, q1⟩ => ⟨I1.kIn, ?_⟩) he hpl
  show wpAny _ _ (call (.ref C) us) _ _ _
  obtain ⟨hp, g, dr, tk, os⟩ := s1
  have hsz : hp.objs.size ≤ hp.objs.size + 1 := Nat.le_succ _
  have hn : H1 (hp.objs.size + 1) = none := I1.hok.fresh hsz
  have hq := q1 (hp.objs.size + 1) hn
  rw [List.append_nil] at hq
  have kk : ∀ b o, hp.get? b = some o → ((hp.push (PySem.W.kdv_tup us)).push (PySem.HandSPX.excO C hp.objs.size)).get? b = some o := fun b o e => Heap.get?_push_of_some _ (Heap.get?_push_of_some _ e)
  have hget : ((hp.push (PySem.W.kdv_tup us)).push (PySem.HandSPX.excO C hp.objs.size)).get? (hp.objs.size + 1) = some (PySem.HandSPX.excO C hp.objs.size) := by heap_get
  have I2 : Inv X pins σ (upd H1 (hp.objs.size + 1) (exo (hp.objs.size + 1) C none)) ⟨(hp.push (PySem.W.kdv_tup us)).push (PySem.HandSPX.excO C hp.objs.size), g, dr, tk, os⟩ :=
    I1.laid (t' := tk) (a := hp.objs.size + 1) (o := exo (hp.objs.size + 1) C none) (h' := (hp.push (PySem.W.kdv_tup us)).push (PySem.HandSPX.excO C hp.objs.size)) kk hsz (exo_ok hget)
  have r2 : Vals (V.ref (hp.objs.size + 1) :: vs) (Value.ref (hp.objs.size + 1) :: us) := .cons rfl r1
  have hl : (Value.ref (hp.objs.size + 1) :: us ++ []).length = ps.length := by
    have e := r2.length
    rw [F1.len _ _ _ _ hq] at e
    rw [List.append_nil]
    exact e.symm
  have hus : us.length ≤ sizeLine := by
    rw [← Paired.length r1, sizeLine_eq]
    omega
  have b2 := hb _ (Value.ref (hp.objs.size + 1) :: us) I2.kIn hl
  rw [List.append_nil] at b2
  refine wpAny_call (PySem.HandSPX.call_own F.excBase_ValueError (fun Y => PySem.HandSPX.refsVE_contains Y bm hbm) (I1.kIn _ _ hC) (PySem.W.looks_findIn I1.kIn iC) (fun self => PySem.W.bind_fn I1.kIn self tI) hus
    (codeAny_mono (F1.run _ X.stack _ _ ⟨Value.ref (hp.objs.size + 1) :: us, []⟩ (Value.ref (hp.objs.size + 1) :: us) _ _ (fun _ _ _ => False) (hr.make C us []) (I2.env0.make C us []) b2 r2 hq) fun r s' hq' => ?_))
  cases r with
  | error er => exact hx pins σ _ _ er s' I2 hq'
  | ok fl =>
    cases fl with
    | ret u =>
      obtain ⟨v, H2, os2, bare2, un2, hok2, rv, ev, d, fs, ea, ed, hd1, q2⟩ := hq'
      subst ev
      obtain ⟨h2, g2, d2, t2, os'⟩ := s'
      obtain ⟨t0, G, J, kG, ge, hoe, na⟩ := mk_end0 (d2 := d2) (t2 := t2) I1 hsz kk un2 hok2 os2 bare2 ea ed hd1
      refine ⟨rv, ⟨hp.objs.size + 1, _, _, ⟨G, g2, d2, t2, os'⟩, _, .ref C, some d, rfl, J, kG, ge, hoe, ⟨rfl, rfl, fun vs hv => ?_⟩, rfl, rfl, na, rfl, bare2, raises_own T.exC T.tyC, q2⟩, fun a oe vs ea2 hg2 hd2 => ?_⟩
      · cases hv
        rfl
      · cases ea2
        have hg3 : h2.get? (hp.objs.size + 1) = some oe := hg2
        rw [hoe] at hg3
        cases hg3
        cases hd2
        show (4 : Nat) < 6
        decide
    | next => exact False.elim hq'
    | brk => exact False.elim hq'
    | cont => exact False.elim hq'
end L2H
namespace ExQ
open PySem PySem.Spec PyProof.Rows L2 NdefX L2H
/-- facts of a class that is made while an exception is handled -/
structure RsH (P : Program) (w : World) (K : PySem.W.Frag) (mg : Str → Option Value) (base : Heap) (x : Str) (C : Addr) (k : Nat) (fs : V → List (Str × V)) : Prop where
  oex : OexC K C
  ini : ∃ fI fd, PySem.W.findIn K (.ref C) "__init__" = some (some (.ref fI)) ∧ PySem.W.typeIn K (.ref fI) = some (.type "function") ∧ Binds K fd ["self", "place"] [] ∧
    FnH P w K mg base CX0 k fI fd ["self", "place"] (fun vs H Q _ => ∃ (a : Addr) (p : V), vs = [.ref a, p] ∧ H a = some (exo a C none) ∧ ∀ dx, H dx = none → dx ≠ a → Q .non (mkd H dx a C (fs p)))
  mgC : mg x = some (.ref C)
section
variable {X : Cx} {x : Str} {C : Addr} {k : Nat} {fs : V → List (Str × V)} {e : Expr} {te : TE} {p pos : Pos}
theorem pmk5_xH (R : RsH X.prog X.w X.K X.mg X.base x C k fs) (hr : RoomH (k + 1) X.A) (hc : HotC X) (hg : Gl X x) (he : PE X e te)
    (hdb : (x == ("__debug__" : Str)) = false := by decide) (hst : starEach [e] X.env = (false, eval e X.env) :: starEach [] X.env := by rfl) :
    PMk5 X (.Call (.Name x p) [e] [] pos) (tMkX C fs te) := by
  obtain ⟨fI, fd, h1, h2, hb, F1⟩ := R.ini
  have q := pmk5_oexH (p := p) (pos := pos) R.oex h1 h2 F1 hr hc hb (by exact pass0) hg R.mgC (pa_cons (pe_up he) pa_nil hst) hdb hst rfl
  intro pins s σ H Q I h
  refine q pins s σ H Q I ?_
  refine ⟨_, h, fun v H1 r => ⟨(show 1 ≤ 1000 by decide), fun a ha => ⟨a, v, rfl, upd_same, fun dx hdx ne => ⟨rfl, dx, _, mkd_a, mkd_dx ne, ?_, ?_⟩⟩⟩⟩
  · rw [upd_ne ne] at hdx
    exact hdx
  · rw [mkd_end ne ha]
    exact r dx (by rw [upd_ne ne] at hdx; exact hdx)
theorem pmk_xN (R : Rs X.prog X.w X.K X.mg X.base x C k fs) (hr : Room (k + 1) X.A) (hg : Gl X x) (he : PE X e te)
    (hdb : (x == ("__debug__" : Str)) = false := by decide) (hst : starEach [e] X.env = (false, eval e X.env) :: starEach [] X.env := by rfl) :
    L2N.PMk X (.Call (.Name x p) [e] [] pos) (tMkX C fs te) := by
  obtain ⟨fI, fd, h1, h2, hb, F1⟩ := R.ini
  have q := (pmk5_oexC (p := p) (pos := pos) R.oex h1 h2 F1 hr hb (by exact pass0) hg R.mgC (pa_cons (pe_up he) pa_nil hst) hdb hst rfl).pmk
  intro pins s σ H Q I h
  refine q pins s σ H Q I ?_
  refine ⟨_, h, fun v H1 r => ⟨(show 1 ≤ 1000 by decide), fun a ha => ⟨a, v, rfl, upd_same, fun dx hdx ne => ⟨rfl, dx, _, mkd_a, mkd_dx ne, ?_, ?_⟩⟩⟩⟩
  · rw [upd_ne ne] at hdx
    exact hdx
  · rw [mkd_end ne ha]
    exact r dx (by rw [upd_ne ne] at hdx; exact hdx)
end
end ExQ

/-! exceptions without a context; suites that raise; several named clauses -/
namespace De
open PySem PySem.Spec PyProof.Rows L2 Dx Dg HotX L2H
section
variable {B h : Heap} {l : List Env} {a L : Addr} {Z Z' : Obj → Prop}
theorem heldZ_imp (z : ∀ o, Z o → Z' o) (x : HandSPX.HeldZ B l a Z L h) : HandSPX.HeldZ B l a Z' L h := by
  obtain ⟨x1, x2, x3, x4⟩ := x
  exact ⟨x1, x2, x3, by
    obtain ⟨oe, vs, T, oT, ts, he, hz, r⟩ := x4
    exact ⟨oe, vs, T, oT, ts, he, z _ hz, r⟩⟩
theorem sky_imp (z : ∀ o, Z o → Z' o) (x : Sky B l a Z L h) : Sky B l a Z' L h := by
  rcases x with ⟨h1, h2, h3, oe, vs, h4, h5, h6⟩ | x | x
  · exact .inl ⟨h1, h2, h3, oe, vs, h4, z _ h5, h6⟩
  · exact .inr (.inl (L2H.flyingZ_imp z x))
  · exact .inr (.inr (heldZ_imp z x))
end
section
variable {X : Cx} {W : WX}
theorem takes_nz (tk : L2.Takes X W) : L2N.Takes X W := fun u s' ⟨a, B, sI, pins, σ, H, cls, d, e, I, nb, up, sky, na, os, ag, w⟩ =>
  tk u s' ⟨a, B, sI, pins, σ, H, cls, d, e, I, nb, up, sky_imp (fun _ z => z.zc) sky, na, os, ag, w⟩
variable {j k : Nat} {x : Str} {ps : List Str} {sp : Sp} {p pos : Pos} {e : Expr} {es : List Expr} {t : TA}
theorem pe_clN (c : Cl X.prog X.w X.K X.mg X.base (L2N.CX X.prog X.w) k x ps sp) (hr : Room j X.A) (hk : k ≤ j) (tk : L2N.Takes X W) (hg : Gl X x) (ha : PA X (e :: es) t)
    (hdb : (x == ("__debug__" : Str)) = false := by decide) (he : starEach (e :: es) X.env = (false, eval e X.env) :: starEach es X.env := by rfl) (hpl : (backTo pos (starEach es X.env)).any (·.1) = false := by rfl) :
    PE X (.Call (.Name x p) (e :: es) [] pos) (tCallS sp (WE W) t) := by
  obtain ⟨f, fd, F, hm, kp, b⟩ := c.ex
  exact pe_callS F (hr.mono hk) hg hm kp b (L2N.passAt tk) ha hdb he hpl
theorem pe_clNL (c : Cl X.prog X.w X.K X.mg X.base (L2N.CX X.prog X.w) k x ps sp) (hr : Room j X.A) (hk : k ≤ j) (tk : L2.Takes X W) (hg : Gl X x) (ha : PA X (e :: es) t)
    (hdb : (x == ("__debug__" : Str)) = false := by decide) (he : starEach (e :: es) X.env = (false, eval e X.env) :: starEach es X.env := by rfl) (hpl : (backTo pos (starEach es X.env)).any (·.1) = false := by rfl) :
    PE X (.Call (.Name x p) (e :: es) [] pos) (tCallS sp (WE W) t) := pe_clN c hr hk (takes_nz tk) hg ha hdb he hpl
end
section
variable {P : Program} {w : World} {C : Ct} {mg : Str → Option Value} {base : Heap} {x qual : Str} {f : Addr} {fd : FuncData} {st : Stmt} {N ps : List Str} {k m : Nat} {R : Tab} {i : Nat} {body : DSt C}
theorem cl_XN (F : Fd C.K x qual st f fd) (S : FnScope N ps (defScope st)) (hm : mg x = some (.ref f)) (b : Binds C.K fd ps []) (hN : N.length = ps.length + m) (hR : ∀ as st, R i as st = callD ps.length m body as st)
    (hbody : ∀ (cdv : Value) (A : Around) (outer : List Env) (s : Shared) (H : Hp) (E : XK), Room k (A.deeper (envOfC qual (defScope st) s.heap.objs.size f cdv)) → ∀ ax : Ax,
      PSs (cxOf (L2N.CX P w) P w C.K mg base N qual (defScope st) f cdv A outer s H E) (defBody st) (body.ts ⟨fun cls d _ H => E cls d H, ax⟩)) : Cl P w C.K mg base (L2N.CX P w) (k + 1) x ps (spX C R i) := by
  refine Cl.mk' F hm (F.ok S ?_ fun cdv A outer s H vs Q E hr hs => ?_) b
  · rintro vs H Q E ⟨s, q, N1, as, st1, r, st', I, p, h, k⟩
    rw [hR] at h
    rw [paired_len p]
    exact (callD_inv h).1
  · obtain ⟨s1, q, N1, as, st1, r, st', I, p, h, k⟩ := hs
    rw [hR] at h
    obtain ⟨hl, fl, ρ', hb, hc⟩ := callD_inv h
    refine ⟨_, hbody cdv A outer s H E hr q.ax, ?_⟩
    refine body.ok (N0 := N1) (H0 := H) ⟨ev_start p (by rw [hN, paired_len p, hl]), I, .refl, fun _ => trivial, I.hq⟩ hb (fun cls d _ H => E cls d H) _ ?_
    rcases hc with ⟨y, rfl, rfl⟩ | ⟨rfl, rfl⟩ | ⟨y, rfl, rfl⟩
    · exact fun v N' H' x i r => k N' H' x i v r
    · exact fun σ' N' H' v _ => k N' H' v.X v.I _ .non
    · exact fun d σ' N' H' v _ z => k d N' H' v.X v.I z
end
section
variable {C : Ct} {s : Sx} {q : Sq} {N0 N N1 N' : Addr → Prop} {H0 H H1 H' : Hp} {σ : L2.St} {ρ ρ' : Rho} {st st1 st' : Ds} {fl : Fl} {W : WX} {D : Ends}
/-- try: body except x as slot i: suite; the suite may raise -/
def sTryX (x : Str) (i : Nat) (sb : Str → Option Bool) (hsb : ∀ y b, sb y = some b → PySem.W.exmOne C.K (.ref (C.ca y)) (.ref (C.ca x)) = some b) (body suite : DSt C) : DSt C :=
  ⟨fun W => fun D σ H => body.ts ⟨wAs C.K (.ref (C.ca x)) i (fun a cls d => suite.ts ⟨fun cls d σ H => W.W cls d (σ.set i none) H, { W.ax with a := a, cls := cls, d := d }⟩) W.W D, W.ax⟩ D σ H, fun ρ st => match body.ev ρ st with
    | some (.xc e, ρ1, st1) => match sb e.x with
      | some true => if noXc ρ1 = true ∧ i < ρ1.length then (match suite.ev (ρ1.set i (.xc e)) st1 with
          | some (.rt x, ρ2, st2) => some (.rt x, ρ2.set i .no, st2)
          | some (.nx, ρ2, st2) => if noXc (ρ2.set i .no) = true then some (.nx, ρ2.set i .no, st2) else none
          | some (.xc y, ρ2, st2) => if noXc (ρ2.set i .no) = true then some (.xc y, ρ2.set i .no, st2) else none
          | _ => none) else none
      | some false => some (.xc e, ρ1, st1)
      | none => none
    | r => r, fun {s q N0 H0 N H σ ρ ρ' st st' fl} v h W D k => by
  split at h
  · rename_i e ρ1 st1 hb
    refine body.ok v hb _ D fun d σ1 N1 H1 v1 x1 hx => ?_
    split at h
    · rename_i hs
      refine ⟨true, hsb _ _ hs, fun _ a ha => ?_, fun z => by cases z⟩
      split at h
      · rename_i hn
        have v2 : Sv C s { q with ax := { q.ax with a := a, cls := .ref (C.ca e.x), d := some d } } N0 H0 N1 H1 (σ1.set i (some (.ref a))) (ρ1.set i (.xc e)) st1 := by
          have v1' := v1.ax (ax := { q.ax with a := a, cls := .ref (C.ca e.x), d := some d }) hn.1
          exact ⟨v1'.E.set ⟨rfl, rfl, d, rfl, hx⟩ (fun x z => z.elim), v1'.I, v1'.X, fun _ => trivial, v1'.hq⟩
        cases hsu : suite.ev (ρ1.set i (.xc e)) st1 with
        | none => rw [hsu] at h; cases h
        | some r =>
          obtain ⟨f2, ρ2, st2⟩ := r
          rw [hsu] at h
          refine suite.ok v2 hsu (fun cls d σ H => W cls d (σ.set i none) H) _ ?_
          cases f2 with
          | rt y =>
            cases h
            exact fun u N2 H2 x2 i2 r2 => k u N2 H2 x2 i2.unax r2
          | nx =>
            dsimp only at h
            split at h
            · rename_i hnn
              cases h
              intro σ2 N2 H2 v3 x3
              exact k _ _ _ (Sv.unax hnn (v3.setNo (i := i) (o := none))) (x1.trans x3)
            · cases h
          | bk => cases h
          | ct => cases h
          | xc y =>
            dsimp only at h
            split at h
            · rename_i hnn
              cases h
              intro d2 σ2 N2 H2 v3 x3 hx3
              exact k d2 _ _ _ (Sv.unax hnn (v3.setNo (i := i) (o := none))) (x1.trans x3) hx3
            · cases h
      · cases h
    · rename_i hs
      cases h
      exact ⟨false, hsb _ _ hs, (fun z => by cases z), fun _ => k d σ1 N1 H1 v1 x1 hx⟩
    · cases h
  · rename_i hne
    refine body.ok v h _ D ?_
    cases fl with
    | nx => exact k
    | bk => exact k
    | ct => exact k
    | rt x => exact k
    | xc e => exact absurd h (hne e ρ' st')⟩
/-- several except clauses with one name, whose suites return -/
def hdsEvN (i : Nat) : List (Hd C) → Xc → Rho → Ds → Rs'
  | [], e, ρ, st => some (.xc e, ρ, st)
  | h :: hs, e, ρ, st => match h.sb e.x with
    | some true => match h.suite.ev (ρ.set i (.xc e)) st with
      | some (.rt x, ρ2, st2) => some (.rt x, ρ2.set i .no, st2)
      | _ => none
    | some false => hdsEvN i hs e ρ st
    | none => none
theorem hdsN_ok {e : Xc} {ρ1 : Rho} {d : Addr} {i : Nat} (v1 : Sv C s q N0 H0 N1 H1 σ ρ1 st1) (hx : XcR C N1 H1 d e) (hn : noXc ρ1 = true) (k : SOut C s q N0 H0 N1 H1 fl ρ' st' W D) : ∀ {hs : List (Hd C)}, hdsEvN i hs e ρ1 st1 = some (fl, ρ', st') →
    L2H.wManyAs C.K i W D (hdsT ⟨W, q.ax⟩ hs) (.ref (C.ca e.x)) (some d) σ H1
  | [], h => by
    cases h
    exact k d σ N1 H1 v1 .refl hx
  | hd :: hs, h => by
    unfold hdsEvN at h
    split at h
    · rename_i hb
      refine ⟨true, hd.hsb _ _ hb, fun _ a ha => ?_, fun z => by cases z⟩
      have v2 : Sv C s { q with ax := { q.ax with a := a, cls := .ref (C.ca e.x), d := some d } } N0 H0 N1 H1 (σ.set i (some (.ref a))) (ρ1.set i (.xc e)) st1 := by
        have v1' := v1.ax (ax := { q.ax with a := a, cls := .ref (C.ca e.x), d := some d }) hn
        exact ⟨v1'.E.set ⟨rfl, rfl, d, rfl, hx⟩ (fun x z => z.elim), v1'.I, v1'.X, fun _ => trivial, v1'.hq⟩
      split at h
      · rename_i y ρ2 st2 hsu
        cases h
        refine hd.suite.ok v2 hsu W _ ?_
        exact fun u N2 H2 x2 i2 r2 => k u N2 H2 x2 i2.unax r2
      · cases h
    · rename_i hb
      exact ⟨false, hd.hsb _ _ hb, (fun z => by cases z), fun _ => hdsN_ok v1 hx hn k h⟩
    · cases h
def sTryMN (i : Nat) (hs : List (Hd C)) (body : DSt C) : DSt C := ⟨fun W => fun D σ H => body.ts ⟨L2H.wManyAs C.K i W.W D (hdsT W hs), W.ax⟩ D σ H, fun ρ st => match body.ev ρ st with
    | some (.xc e, ρ1, st1) => if noXc ρ1 = true then hdsEvN i hs e ρ1 st1 else none
    | r => r, fun {s q N0 H0 N H σ ρ ρ' st st' fl} v h W D k => by
  split at h
  · rename_i e ρ1 st1 hb
    refine body.ok v hb _ D fun d σ1 N1 H1 v1 x1 hx => ?_
    split at h
    · rename_i hn
      exact hdsN_ok v1 hx hn (k.step x1) h
    · cases h
  · rename_i hne
    refine body.ok v h _ D ?_
    cases fl with
    | nx => exact k
    | bk => exact k
    | ct => exact k
    | rt x => exact k
    | xc e => exact absurd h (hne e ρ' st')⟩
end
section
variable {C : Ct} {W : Wc}
theorem ts_sTryX {x : Str} {i : Nat} {sb : Str → Option Bool} {h : ∀ y b, sb y = some b → PySem.W.exmOne C.K (.ref (C.ca y)) (.ref (C.ca x)) = some b} {body suite : DSt C} : (sTryX x i sb h body suite).ts W = fun D σ H => body.ts ⟨wAs C.K (.ref (C.ca x)) i (fun a cls d => suite.ts ⟨fun cls d σ H => W.W cls d (σ.set i none) H, { W.ax with a := a, cls := cls, d := d }⟩) W.W D, W.ax⟩ D σ H := rfl
theorem ts_sTryMN {i : Nat} {hs : List (Hd C)} {body : DSt C} : (sTryMN i hs body).ts W = fun D σ H => body.ts ⟨L2H.wManyAs C.K i W.W D (hdsT W hs), W.ax⟩ D σ H := rfl
end
section
variable {X : Cx} {x n : Str} {i : Nat} {body suite : List Stmt} {b₀ : Stmt} {np pos pos' : Pos} {C : Ct} {tb tsu : DSt C} {W : WX} {ax : Ax} {sb : Str → Option Bool} {h : ∀ y b, sb y = some b → PySem.W.exmOne C.K (.ref (C.ca y)) (.ref (C.ca x)) = some b}
theorem ps_sTryX (hK : X.K = C.K) (hs : X.stack = X.env :: X.outer) (hf : X.env.frame = some X.env.locals) (hN : X.N.Nodup) (hi : X.N[i]? = some n) (hln : X.env.kindOf n = some .local) (hc : Names X x (.ref (C.ca x))) (tk : L2.Takes X W)
    (hb : ∀ (W' : WX) (pn : List (Addr × Obj)) (xe : Value → Shared → Prop), L2N.Takes (X.tr pn xe) W' → PassesOwn (model X.prog X.w) X.A X.env xe → PSs (X.tr pn xe) body (tb.ts ⟨W', ax⟩))
    (hsu : ∀ (a : Addr) (oe : Obj) (cls : Value) (d : Option Addr) (pn : List (Addr × Obj)) (xe : Value → Shared → Prop), L2N.Zn cls d oe → (∃ vs, oe.data = .fields vs) → L2.Takes (L2H.sX X a ((a, oe) :: pn) xe) (fun cls d σ H => W cls d (σ.set i none) H) → HotC (L2H.sX X a ((a, oe) :: pn) xe) →
      PSs (L2H.sX X a ((a, oe) :: pn) xe) (b₀ :: suite) (tsu.ts ⟨fun cls d σ H => W cls d (σ.set i none) H, { ax with a := a, cls := cls, d := d }⟩)) :
    PS X (.Try body [.ExceptHandler (some (.Name x np)) (some n) (b₀ :: suite) pos'] [] [] pos) ((sTryX x i sb h tb tsu).ts ⟨W, ax⟩) := by
  have r := L2H.ps_try_asX (i := i) (np := np) (pos := pos) (pos' := pos') (tb := fun W' => tb.ts ⟨W', ax⟩) (ts := fun a cls d => tsu.ts ⟨fun cls d σ H => W cls d (σ.set i none) H, { ax with a := a, cls := cls, d := d }⟩) (Wout := W) hs hf hN hi hln hc tk hb hsu
  rw [hK] at r
  exact r
end
section
variable {X : Cx} {n : Str} {i : Nat} {body : List Stmt} {h₀ : ExceptHandler} {hds : List ExceptHandler} {pos : Pos} {C : Ct} {tb : DSt C} {W : WX} {ax : Ax}
theorem ps_sTryMN {hs : List (Hd C)} (hK : X.K = C.K) (hst : X.stack = X.env :: X.outer) (hf : X.env.frame = some X.env.locals) (hN : X.N.Nodup) (hi : X.N[i]? = some n) (hln : X.env.kindOf n = some .local) (tk : Takes X W)
    (hb : ∀ (W' : WX) (pn : List (Addr × Obj)) (xe : Value → Shared → Prop), Takes (X.tr pn xe) W' → PassesOwn (model X.prog X.w) X.A X.env xe → PSs (X.tr pn xe) body (tb.ts ⟨W', ax⟩))
    (hh : L2H.HdsOkN X n (h₀ :: hds) (hdsT ⟨W, ax⟩ hs)) : PS X (.Try body (h₀ :: hds) [] [] pos) ((sTryMN i hs tb).ts ⟨W, ax⟩) := by
  have r := L2H.ps_try_manyAs (i := i) (pos := pos) (tb := fun W' => tb.ts ⟨W', ax⟩) hst hf hN hi hln tk hb hh
  rw [hK] at r
  exact r
end
/-- a class that is raised and caught, also while another one is handled -/
structure XxH (P : Program) (w : World) (K : PySem.W.Frag) (mg : Str → Option Value) (base : Heap) (b x : Str) : Prop where
  rs : ExQ.RsH P w K mg base x (He.ga K x) 2 (fun p => ExQ.fD x b p)
end De

/-! dicts as data; str of an int, int of a text; the greatest of a list -/
namespace De
open PySem PySem.Spec PyProof.Rows L2 Dx Dg
/-- int(text) -/
def fIntS : PyData → Option PyData
  | .str a => if a.length ≤ 640 then (PySem.intText? a).map .int else none
  | _ => none
def bIntS (C : Ct) : B1 C .fz := ⟨fun xs H Q => ∃ a n, xs = [.str a] ∧ PySem.intText? a = some n ∧ a.length ≤ 640 ∧ Q (.int n) H, fIntS, fun {s q N H st v x z} I hx h Q k => by
  unfold fIntS at h
  split at h
  · rename_i a
    split at h
    · rename_i hz
      cases hn : PySem.intText? a with
      | none => rw [hn] at h; cases h
      | some n =>
        rw [hn] at h
        cases h
        cases pk_s hx
        exact ⟨a, n, rfl, hn, hz, k _ _ _ .refl I (.int _)⟩
    · cases h
  · cases h⟩
/-- str(int) -/
def fStrI : PyData → Option PyData
  | .int i => if i.natAbs < 1000000 then some (.str (toString i)) else none
  | _ => none
theorem log_small {n : Nat} (h : n < 1000000) : n.log2 < 1920 := by
  by_cases h0 : n = 0
  · subst h0; decide
  · have : n.log2 < 20 := (Nat.log2_lt h0).mpr (by omega)
    omega
def bStrI (C : Ct) : B1 C .fz := ⟨fun xs H Q => ∃ i, xs = [.int i] ∧ i.natAbs.log2 < 1920 ∧ Q (.str (toString i)) H, fStrI, fun {s q N H st v x z} I hx h Q k => by
  unfold fStrI at h
  split at h
  · rename_i i
    split at h
    · rename_i hz
      cases h
      cases pk_i hx
      exact ⟨i, rfl, log_small hz, k _ _ _ .refl I (.str _)⟩
    · cases h
  · cases h⟩
/-- max of a list of ints -/
def gmax : List Int → Option Int
  | [] => none
  | [x] => some x
  | x :: r => (gmax r).map fun y => if y ≤ x then x else y
theorem gmax_ok : ∀ {ns : List Int} {m : Int}, gmax ns = some m → m ∈ ns ∧ ∀ y, y ∈ ns → y ≤ m
  | [], _, h => by cases h
  | [x], _, h => by
    cases h
    exact ⟨List.mem_cons_self, fun y hy => by cases List.mem_singleton.mp hy; exact Int.le_refl _⟩
  | x :: y :: r, m, h => by
    unfold gmax at h
    cases hg : gmax (y :: r) with
    | none => rw [hg] at h; cases h
    | some g =>
      rw [hg] at h
      have e : m = if g ≤ x then x else g := (Option.some.inj h).symm
      subst e
      obtain ⟨h1, h2⟩ := gmax_ok hg
      by_cases hz : g ≤ x
      · rw [if_pos hz]
        refine ⟨List.mem_cons_self, fun z hz2 => ?_⟩
        rcases List.mem_cons.mp hz2 with rfl | hz2
        · exact Int.le_refl _
        · exact Int.le_trans (h2 z hz2) hz
      · rw [if_neg hz]
        refine ⟨List.mem_cons_of_mem _ h1, fun z hz2 => ?_⟩
        rcases List.mem_cons.mp hz2 with rfl | hz2
        · omega
        · exact h2 z hz2
def fMaxL : PyData → Option PyData
  | .list xs => match asInts xs with
    | some ns => (gmax ns).map .int
    | none => none
  | _ => none
def bMaxL (C : Ct) : B1 C .fz := ⟨rMax C.K, fMaxL, fun {s q N H st v x z} I hx h Q k => by
  unfold fMaxL at h
  split at h
  · split at h
    · rename_i ns hns
      cases hg : gmax ns with
      | none => rw [hg] at h; cases h
      | some g =>
        rw [hg] at h
        cases h
        obtain ⟨l, xs, rfl, _, h1, h2⟩ := pk_l hx I.ns
        cases asInts_rp h2 hns
        obtain ⟨g1, g2⟩ := gmax_ok hg
        refine ⟨l, ns, rfl, SqL.of h1, ?_, fun m hm hall => ?_⟩
        · cases ns with
          | nil => cases hg
          | cons a r => exact Nat.succ_pos _
        · have e : m = g := Int.le_antisymm (g2 m hm) (hall g g1)
          subst e
          exact k _ _ _ .refl I (.int _)
    · cases h
  · cases h⟩
/-! ### dicts of texts -/
section
variable {C : Ct} {s : Sx} {q : Sq} {N N' : Addr → Prop} {H H' : Hp} {ds : Ds}
theorem Iv.frzK (I : Iv C s q N H ds) {l : Addr} {o : HO} (h : H l = some o) (n : Nt s l) : Iv C s q (fzN N l) H ds := ⟨fun a z => Or.elim z (I.na a) (fun z => by subst z; rw [h]; exact fun z => by cases z), fun z => Or.elim z I.ns (fun z => n.1 z.symm), I.hs.mono (fun _ h _ => h) (fun _ _ _ h => h) (fun _ _ _ h _ => h) (fun a z _ h => h.elim id fun e => absurd (e ▸ z) n.2) (fun _ _ h => rp_N (fun _ h => .inl h) h) (fun _ _ h => rps_N (fun _ h => .inl h) h), I.hq, I.sc, I.nS, I.sS, I.fS, I.pn, I.tb⟩
end
def tsTx : List (Str × Str) → List (TE × TE)
  | [] => []
  | (k, v) :: r => (tC (.str k), tC (.str v)) :: tsTx r
theorem tsTx_ok {σ : L2.St} {H : Hp} {Q : List (V × V) → Hp → Prop} : ∀ {kvs : List (Str × Str)}, Q (kvs.map fun p => (V.str p.1, V.str p.2)) H → tPairs (tsTx kvs) σ H Q
  | [], h => h
  | (k, v) :: r, h => tsTx_ok (kvs := r) (Q := fun ps H3 => Q ((V.str k, V.str v) :: ps) H3) h
/-- {"a": "b", ..}: different keys -/
def dDicS (C : Ct) [Nw C] (kvs : List (Str × Str)) (hk : kvs.length ≤ 15) (hm : mergeK [] (kvs.map fun p => ((Sum.inr p.1 : Key), V.str p.2)) = (kvs.map fun p => ((Sum.inr p.1 : Key), V.str p.2))) : DE C .fz :=
  ⟨fun _ => tDisp (tsTx kvs), fun _ st => some (.ok (.dict (kvs.map fun p => (PyData.str p.1, PyData.str p.2))), st), fun {s q H0 N σ H ρ st st' r} E I h W Q k => by
  cases h
  intro p hp
  refine tsTx_ok ⟨upd_same, kvs.map fun p => ((Sum.inr p.1 : Key), V.str p.2), ?_, ?_, ?_⟩
  · rw [List.map_map]
    rfl
  · rw [List.length_map]
    exact hk
  · have e : upd (upd H p (.dK [])) p (.dK (mergeK [] (kvs.map fun p => ((Sum.inr p.1 : Key), V.str p.2)))) = upd H p (.dK (kvs.map fun p => ((Sum.inr p.1 : Key), V.str p.2))) := by
      rw [hm]
      funext a
      by_cases ha : a = p
      · subst ha; rw [upd_same, upd_same]
      · rw [upd_ne ha, upd_ne ha, upd_ne ha]
    rw [e]
    have hs : Nt s p := I.nt hp
    have e1 : Xt s N H N (upd H p (.dK (kvs.map fun p => ((Sum.inr p.1 : Key), V.str p.2)))) := Xt.new hp
    refine k (fzN N p) _ (e1.frz hp) ((I.new hp).frzK upd_same hs) _ ?_
    refine .dic (ks := kvs.map (·.1)) (xs := kvs.map fun p => V.str p.2) (ds := kvs.map fun p => PyData.str p.2) (.inr rfl) ?_ (rps_map (fun _ => .str _)) (by rw [List.length_map, List.length_map]) ?_
    · rw [upd_same, List.zip_map', List.map_map]
      rfl
    · rw [List.zip_map', List.map_map]
      rfl⟩
def lkD : List (PyData × PyData) → Str → Option PyData
  | [], _ => none
  | (.str k, v) :: r, x => if k = x then some v else lkD r x
  | _ :: _, _ => none
theorem lkD_ok {K : PySem.W.Frag} {N : Addr → Prop} {H : Hp} {x : Str} {z : PyData} : ∀ {ks : List Str} {xs : List V} {ds : List PyData}, RpAll K N H xs ds → lkD ((ks.zip ds).map fun p => (PyData.str p.1, p.2)) x = some z →
    ∃ v, valV ((ks.zip xs).map fun p => ((Sum.inr p.1 : Key), p.2)) (Sum.inr x) = some v ∧ Rp K N H v z
  | [], _, _, _, h => by cases h
  | _ :: _, _, _, .nil, h => by cases h
  | k :: ks, _, _, .cons (v := v) (d := d) r rs, h => by
    have h' : (if k = x then some d else lkD ((ks.zip _).map fun p => (PyData.str p.1, p.2)) x) = some z := h
    by_cases e : k = x
    · rw [if_pos e] at h'
      cases h'
      subst e
      exact ⟨v, valV_pos rfl, r⟩
    · rw [if_neg e] at h'
      obtain ⟨w, h1, h2⟩ := lkD_ok rs h'
      refine ⟨w, ?_, h2⟩
      rw [← h1]
      exact valV_neg (fun z => e (Sum.inr.inj z))
/-- d[k], d a dict of texts -/
def dDicIx {C : Ct} (a b : DE C .pk) : DE C .fz := ⟨fun W => tDGet (a.te W) (b.te W), fun ρ st => bindR (a.ev ρ st) fun x st1 => bindR (b.ev ρ st1) fun y st2 => match x, y with
  | .dict kvs, .str k => (lkD kvs k).map fun z => (.ok z, st2)
  | _, _ => none, fun {s q H0 N σ H ρ st st' r} E I h W Q k => by
  rcases bindR_inv h with ⟨e, h1, rfl⟩ | ⟨x, st1, h1, h2⟩
  · exact a.ok E I h1 W _ k.err
  · refine a.ok E I h1 W _ fun N1 H1 e1 I1 v r1 => ?_
    rcases bindR_inv h2 with ⟨e, h3, rfl⟩ | ⟨y, st2, h3, h4⟩
    · exact b.ok (E.xt I e1) I1 h3 W _ (k.step e1).err
    · refine b.ok (E.xt I e1) I1 h3 W _ fun N2 H2 e2 I2 w r2 => ?_
      split at h4
      · rename_i kvs kk
        cases hz : lkD kvs kk with
        | none => rw [hz] at h4; cases h4
        | some z =>
          rw [hz] at h4
          cases h4
          cases pk_s r2
          have r1' := PR.xt I1 e2 r1
          rcases r1' with r1' | ⟨l, xs, ds, _, z2, _⟩
          · cases r1' with
            | dic n hh rr hl hkv =>
              subst hkv
              obtain ⟨v, h5, h6⟩ := lkD_ok rr hz
              refine ⟨_, v, rfl, ?_, k _ _ (e1.trans e2) I2 _ h6⟩
              rw [← h5]
              exact DGet.k (k := Sum.inr kk) hh
            | obj n hh rr hl hkv =>
              subst hkv
              cases hz
          · cases z2
      · cases h4⟩
section
variable {C : Ct} {W : Wc}
theorem te_dDicS [Nw C] {kvs : List (Str × Str)} {hk : kvs.length ≤ 15} {hm : mergeK [] (kvs.map fun p => ((Sum.inr p.1 : Key), V.str p.2)) = (kvs.map fun p => ((Sum.inr p.1 : Key), V.str p.2))} : (dDicS C kvs hk hm).te W = tDisp (tsTx kvs) := rfl
theorem te_tsTx0 : tsTx [] = [] := rfl
theorem te_tsTx1 {k v : Str} {r : List (Str × Str)} : tsTx ((k, v) :: r) = (tC (.str k), tC (.str v)) :: tsTx r := rfl
theorem te_dDicIx {a b : DE C .pk} : (dDicIx a b).te W = tDGet (a.te W) (b.te W) := rfl
end
end De

namespace De
open PySem PySem.Spec PyProof.Rows L2 Dx Dg
section
variable {C : Ct} {ρ ρ1 ρ2 : Rho} {st st1 st2 : Ds} {x : Str} {i : Nat} {sb : Str → Option Bool} {h : ∀ y b, sb y = some b → PySem.W.exmOne C.K (.ref (C.ca y)) (.ref (C.ca x)) = some b} {body suite : DSt C} {e y : Xc} {v : PyData}
theorem es_sTryX_xx (h1 : body.ev ρ st = some (.xc e, ρ1, st1)) (h2 : sb e.x = some true) (h3 : noXc ρ1 = true) (h4 : i < ρ1.length) (h5 : suite.ev (ρ1.set i (.xc e)) st1 = some (.xc y, ρ2, st2)) (h6 : noXc (ρ2.set i .no) = true) : (sTryX x i sb h body suite).ev ρ st = some (.xc y, ρ2.set i .no, st2) := by
  simp only [sTryX, h1, h2, h3, h4, h5, h6, and_self, if_true]
theorem es_sTryX_nx (h1 : body.ev ρ st = some (.nx, ρ1, st1)) : (sTryX x i sb h body suite).ev ρ st = some (.nx, ρ1, st1) := by
  simp only [sTryX, h1]
theorem es_sTryMN_rt {hs : List (Hd C)} (h1 : body.ev ρ st = some (.rt v, ρ1, st1)) : (sTryMN i hs body).ev ρ st = some (.rt v, ρ1, st1) := by
  simp only [sTryMN, h1]
theorem es_sTryMN_xc {hs : List (Hd C)} (h1 : body.ev ρ st = some (.xc e, ρ1, st1)) (h2 : noXc ρ1 = true) : (sTryMN i hs body).ev ρ st = hdsEvN i hs e ρ1 st1 := by
  simp only [sTryMN, h1, h2, if_true]
end
end De

/-! An object of an own class: its fields. -/
namespace De
open PySem L2 Dx
/-- what the object's class must have -/
structure ObOk (C : Ct) : Prop where
  cls : Cls C.K C.oc
  na : ∀ f, f ∈ C.on → NoAttr C.K C.oc f
  len : C.on.length < 1000
instance {K : PySem.W.Frag} {fam md : Bool} {ca : Str → Addr} {fs : Str → V → List (Str × V)} {oc : Addr} {on : List Str} {T : List NdefX.NTab} {wf : Nat → List (Str × Addr) → Addr → Fv.FW} {nm : Nat → List (Str × NameKind)} {fu : Nat → List Str} {ji : List Nat} : Ni ⟨K, fam, ca, fs, oc, on, md, T, wf, nm, fu, ji, false⟩ := ⟨rfl⟩
abbrev FAt (C : Ct) (i : Nat) (f : Str) : Prop := C.on[i]? = some f ∧ f ∉ C.on.take i
theorem lk_zip {f : Str} {v : V} : ∀ {on : List Str} {vs : List V} {i : Nat}, on[i]? = some f → f ∉ on.take i → vs[i]? = some v → (on.zip vs).lookup f = some v
  | [], _, _, h, _, _ => by simp at h
  | _ :: _, [], _, _, _, h => by simp at h
  | g :: on, u :: vs, 0, h, _, h2 => by
    cases h
    cases h2
    simp [List.lookup]
  | g :: on, u :: vs, i + 1, h, h1, h2 => by
    have hne : f ≠ g := fun e => h1 (by rw [e]; exact List.mem_cons_self)
    have := lk_zip (on := on) (vs := vs) (i := i) h (fun z => h1 (List.mem_cons_of_mem _ z)) h2
    rw [List.zip_cons_cons, List.lookup_cons, (beq_eq_false_iff_ne).mpr hne]
    exact this
theorem lk_none {f : Str} : ∀ {on : List Str} {vs : List V}, f ∉ on → (on.zip vs).lookup f = none
  | [], _, _ => rfl
  | _ :: _, [], _ => rfl
  | g :: on, u :: vs, h => by
    have hne : f ≠ g := fun e => h (by rw [e]; exact List.mem_cons_self)
    rw [List.zip_cons_cons, List.lookup_cons, (beq_eq_false_iff_ne).mpr hne]
    exact lk_none fun z => h (List.mem_cons_of_mem _ z)
def putL {α : Type} : List α → Nat → α → List α
  | [], 0, y => [y]
  | [], _ + 1, _ => []
  | _ :: r, 0, y => y :: r
  | x :: r, i + 1, y => x :: putL r i y
theorem putL_len {α : Type} {y : α} : ∀ {xs : List α} {i n : Nat}, xs.length ≤ n → i < n → (putL xs i y).length ≤ n
  | [], 0, n, _, h => h
  | [], _ + 1, n, _, _ => Nat.zero_le _
  | _ :: r, 0, n, h, _ => h
  | x :: r, i + 1, n, h, h2 => by
    cases n with
    | zero => simp at h
    | succ n => exact Nat.succ_le_succ (putL_len (Nat.le_of_succ_le_succ h) (Nat.lt_of_succ_lt_succ h2))
theorem put_zip {f : Str} {y : V} : ∀ {on : List Str} {vs : List V} {i : Nat}, on[i]? = some f → f ∉ on.take i → i ≤ vs.length → putF f y (on.zip vs) = on.zip (putL vs i y)
  | [], _, _, h, _, _ => by simp at h
  | g :: on, [], 0, h, _, _ => by
    cases h
    show putF f y [] = _
    simp [putF, putL]
  | g :: on, [], i + 1, _, _, h => by simp at h
  | g :: on, u :: vs, 0, h, _, _ => by
    cases h
    simp [putF, putL]
  | g :: on, u :: vs, i + 1, h, h1, h2 => by
    have hne : g ≠ f := fun e => h1 (by rw [e]; exact List.mem_cons_self)
    have := put_zip (y := y) (on := on) (vs := vs) (i := i) h (fun z => h1 (List.mem_cons_of_mem _ z)) (Nat.le_of_succ_le_succ h2)
    rw [List.zip_cons_cons]
    show (if g = f then _ else _) = _
    rw [if_neg hne, this]
    rfl
theorem paired_put {α β : Type} {F : α → β → Prop} {y : α} {z : β} (h : F y z) : ∀ {xs : List α} {ys : List β} {i : Nat}, Paired F xs ys → Paired F (putL xs i y) (putL ys i z)
  | _, _, 0, .nil => .cons h .nil
  | _, _, _ + 1, .nil => .nil
  | _, _, 0, .cons _ r => .cons h r
  | _, _, i + 1, .cons g r => .cons g (paired_put h r)
/-- all other fields are data -/
def onlyW : List Fld → Nat → Bool
  | [], _ => true
  | _ :: r, 0 => r.all fun f => match f with | .d _ => true | _ => false
  | .d _ :: r, i + 1 => onlyW r i
  | _ :: _, _ + 1 => false
section
variable {C : Ct} {k : Kd} {s : Sx} {q : Sq} {N0 N N1 N' : Addr → Prop} {H0 H H1 H' : Hp} {σ : L2.St} {ρ ρ' : Rho} {st st' st1 : Ds} {W : WX} {D : Ends} {fl : Fl}
theorem Iv.snex (I : Iv C s q N H st) : ∃ u, H s.a = some u ∧ nex u = true := by
  have h := I.hs
  unfold StO at h
  split at h
  · exact ⟨_, h, rfl⟩
  · obtain ⟨vs, h1, _⟩ := h
    exact ⟨_, h1, by split <;> rfl⟩
/-- what is at s is changed -/
theorem Xt.atS (I : Iv C s q N H st) {o : HO} : Xt s N H N (upd H s.a o) :=
  ⟨fun a o n h _ => by rw [upd_ne n.1]; exact h, fun a o z _ h _ => by rw [upd_ne (by rintro rfl; exact I.sS z)]; exact h, fun a h => by
    by_cases e : a = s.a
    · subst e; rw [upd_same]; exact fun z => by cases z
    · rw [upd_ne e]; exact h, fun _ h => h, fun _ h => .inl h⟩
theorem Iv.atS (I : Iv C s q N H st) {o : HO} (h : StO C s q N (upd H s.a o) st') (e : st'.scr = st.scr) (ep : st'.pin = st.pin) : Iv C s q N (upd H s.a o) st' :=
  ⟨fun a n => by rw [upd_ne (by rintro rfl; exact I.ns n)]; exact I.na a n, I.ns, h, I.hq.keep (Xt.atS I).kp0, e.trans I.sc, I.nS, I.sS, fun m a h => I.fS m a (upd_none h), ep.trans I.pn, I.snex.elim fun u h => tabs_upd I.tb h.1 h.2⟩
theorem FldR.atS (I : Iv C s q N H st) {o : HO} {v : V} {f : Fld} (h : FldR C.K s q.wl N H v f) : FldR C.K s q.wl N (upd H s.a o) v f := by
  cases f with
  | d x => exact I.rp (Xt.atS I) h
  | w ps =>
    obtain ⟨l, ts, e, ez, w⟩ := h
    exact ⟨l, ts, e, ez, w.mono (fun a o g h => by rw [upd_ne (by rintro rfl; exact I.sl _ h g)]; exact h) (fun a o z h _ => by rw [upd_ne (by rintro rfl; exact I.sS z)]; exact h) (fun _ _ _ h => h) (fun _ _ h => I.rp (Xt.atS I) h) fun _ _ h => I.rps (Xt.atS I) h⟩
theorem Iv.ob [Ni C] (I : Iv C s q N H st) {dx : Addr} (h : q.ob = some dx) : ∃ vs, H s.a = some (.ins C.oc dx (C.on.zip vs)) ∧ vs.length ≤ C.on.length ∧ Paired (FldR C.K s q.wl N H) vs st.fs := by
  have z := I.hs
  unfold StO at z
  rw [h] at z
  obtain ⟨vs, z1, z2, z3⟩ := z
  rw [Ni.h (C := C)] at z1 z2
  exact ⟨vs, z1, z2.resolve_left (by simp), z3⟩
theorem StO.of [Ni C] {dx : Addr} (h : q.ob = some dx) {vs : List V} (h1 : H s.a = some (.ins C.oc dx (C.on.zip vs))) (h2 : vs.length ≤ C.on.length) (h3 : Paired (FldR C.K s q.wl N H) vs st.fs) : StO C s q N H st := by
  unfold StO
  rw [h]
  refine ⟨vs, ?_, .inr h2, h3⟩
  rw [Ni.h (C := C)]
  exact h1
/-- a field is set -/
theorem Iv.putG [Ni C] (I : Iv C s q N H st) {dx : Addr} (h : q.ob = some dx) {vs : List V} (h2 : vs.length ≤ C.on.length) (h3 : Paired (FldR C.K s q.wl N H) vs st.fs) {i : Nat} {f : Str} (hf : FAt C i f) (hi : i ≤ st.fs.length) {y : V} {x : Fld} (r : FldR C.K s q.wl N H y x) :
    Iv C s q N (upd H s.a (.ins C.oc dx (putF f y (C.on.zip vs)))) { st with fs := putL st.fs i x } := by
  have hl : vs.length = st.fs.length := paired_len h3
  rw [put_zip hf.1 hf.2 (by rw [hl]; exact hi)]
  refine I.atS (st' := { st with fs := putL st.fs i x }) (StO.of h (vs := putL vs i y) upd_same (putL_len h2 (List.getElem?_eq_some_iff.mp hf.1).1) (paired_put (r.atS I) ?_)) rfl rfl
  exact paired_imp (fun v f h => h.atS I) h3
theorem Iv.put [Ni C] (I : Iv C s q N H st) {dx : Addr} (h : q.ob = some dx) {vs : List V} (h2 : vs.length ≤ C.on.length) (h3 : Paired (FldR C.K s q.wl N H) vs st.fs) {i : Nat} {f : Str} (hf : FAt C i f) (hi : i ≤ st.fs.length) {y : V} {x : PyData} (r : Rp C.K N H y x) :
    Iv C s q N (upd H s.a (.ins C.oc dx (putF f y (C.on.zip vs)))) { st with fs := putL st.fs i (.d x) } := I.putG h h2 h3 hf hi (x := .d x) r
theorem paired_get {α β : Type} {F : α → β → Prop} : ∀ {xs : List α} {ys : List β} {i : Nat} {y : β}, Paired F xs ys → ys[i]? = some y → ∃ x, xs[i]? = some x ∧ F x y
  | _, _, 0, _, .cons h _, e => by cases e; exact ⟨_, rfl, h⟩
  | _, _, i + 1, _, .cons _ r, e => paired_get (i := i) r e
  | _, _, _, _, .nil, e => by simp at e
/-! ### fields -/
def dFld [Ni C] (O : ObOk C) (j i : Nat) (f : Str) (hf : FAt C i f) : DE C .fz := ⟨fun _ => tFld C.K (tVar j) f, fun ρ st => match ρ[j]?, st.fs[i]? with
  | some .ob, some (.d x) => some (.ok x, st)
  | _, _ => none, fun {s q H0 N σ H ρ st st' r} E I h W Q k => by
  split at h
  · rename_i x hj hi
    cases h
    obtain ⟨o, ho, rfl, dx, hx⟩ := E.get hj
    obtain ⟨vs, h1, h2, h3⟩ := I.ob hx
    obtain ⟨u, hu, hr⟩ := paired_get h3 hi
    exact ⟨_, ho, _, _, dx, _, u, rfl, h1, O.cls, O.na _ (List.mem_of_getElem? hf.1), lk_zip hf.1 hf.2 hu, k _ _ .refl I _ hr⟩
  · cases h⟩
/-- self.f = a -/
def sFldSet [Ni C] (O : ObOk C) (j i : Nat) (f : Str) (hf : FAt C i f) (a : DE C .fz) : DSt C := ⟨fun W => sFld C.K (tVar j) (a.te W) f, fun ρ st => match ρ[j]? with
  | some .ob => bindS (a.ev ρ st) ρ fun x st1 => if i ≤ st1.fs.length then some (.nx, ρ, { st1 with fs := putL st1.fs i (.d x) }) else none
  | _ => none, fun {s q N0 H0 N H σ ρ ρ' st st' fl} v h W D k => by
  split at h
  · rename_i hj
    obtain ⟨o, ho, rfl, dx, hx⟩ := v.E.get hj
    rcases bindS_inv h with ⟨e, h1, rfl, rfl⟩ | ⟨x, st1, h1, h2⟩
    · exact a.ok v.E v.I h1 W _ (SOut.out v k)
    · refine a.ok v.E v.I h1 W _ fun N1 H1 e1 I1 u r1 => ?_
      split at h2
      · rename_i hi
        cases h2
        obtain ⟨vs, g1, g2, g3⟩ := I1.ob hx
        have v1 := v.xt e1 I1
        refine ⟨_, ho, _, _, dx, _, rfl, g1, O.cls, O.na _ (List.mem_of_getElem? hf.1), ?_, ?_⟩
        · exact Nat.lt_of_le_of_lt (by rw [List.length_zip]; exact Nat.min_le_left _ _) O.len
        · exact k _ _ _ (v1.xt (Xt.atS I1) (I1.put hx g2 g3 hf hi r1)) ((e1.trans (Xt.atS I1)).fx v.I)
      · cases h2
  · cases h⟩
/-- self.f += a -/
def sFldAdd [Ni C] (O : ObOk C) (j i : Nat) (f : Str) (hf : FAt C i f) (a : DE C .fz) : DSt C := ⟨fun W => sFldAug C.K (tVar j) (a.te W) rAdd f, fun ρ st => match ρ[j]?, st.fs[i]? with
  | some .ob, some (.d (.int n)) => bindS (a.ev ρ st) ρ fun x st1 => match x with
    | .int m => if i ≤ st1.fs.length then some (.nx, ρ, { st1 with fs := putL st1.fs i (.d (.int (n + m))) }) else none
    | _ => none
  | _, _ => none, fun {s q N0 H0 N H σ ρ ρ' st st' fl} v h W D k => by
  split at h
  · rename_i n hj hn
    obtain ⟨o, ho, rfl, dx, hx⟩ := v.E.get hj
    obtain ⟨vs0, f1, f2, f3⟩ := v.I.ob hx
    obtain ⟨u0, hu0, hr0⟩ := paired_get f3 hn
    cases Rp.int_eq hr0
    refine ⟨_, ho, _, _, dx, _, _, rfl, f1, O.cls, O.na _ (List.mem_of_getElem? hf.1), lk_zip hf.1 hf.2 hu0, ?_⟩
    rcases bindS_inv h with ⟨e, h1, rfl, rfl⟩ | ⟨x, st1, h1, h2⟩
    · exact a.ok v.E v.I h1 W _ (SOut.out v k)
    · refine a.ok v.E v.I h1 W _ fun N1 H1 e1 I1 u r1 => ?_
      split at h2
      · rename_i m
        split at h2
        · rename_i hi
          cases h2
          cases Rp.int_eq r1
          obtain ⟨vs, g1, g2, g3⟩ := I1.ob hx
          have v1 := v.xt e1 I1
          refine ⟨n, m, rfl, rfl, dx, _, g1, ?_, ?_⟩
          · exact Nat.lt_of_le_of_lt (by rw [List.length_zip]; exact Nat.min_le_left _ _) O.len
          · exact k _ _ _ (v1.xt (Xt.atS I1) (I1.put hx g2 g3 hf hi (.int _))) ((e1.trans (Xt.atS I1)).fx v.I)
        · cases h2
      · cases h2
  · cases h⟩
/-! ### methods -/
def tMethS (C : Addr) (m : Str) (sp : Sp) (E : L2.St → XK) (ta : TE) (t : TA) : TE := fun σ H Q => ta σ H fun x H1 => ∃ a dx fs, x = .ref a ∧ H1 a = some (.ins C dx fs) ∧ fs.lookup m = none ∧ t σ H1 fun vs H2 => sp (x :: vs) H2 Q (E σ)
def dMeth [Ni C] (R : Tab) (f j : Nat) (m : Str) (hm : m ∉ C.on) (t : DA C) : DE C .fz := ⟨fun W => tMeth C.oc m (spF C R f) [] E0 (tVar j) (t.ta W), fun ρ st => match ρ[j]? with
  | some .ob => bindR (t.ev ρ st) fun as st1 => match R f (.ob :: as) st1 with
    | some (.ok x, st2) => some (.ok x, st2)
    | _ => none
  | _ => none, fun {s q H0 N σ H ρ st st' r} E I h W Q k => by
  split at h
  · rename_i hj
    obtain ⟨o, ho, rfl, dx, hx⟩ := E.get hj
    obtain ⟨vs0, f1, f2, f3⟩ := I.ob hx
    refine ⟨_, ho, _, dx, _, rfl, f1, lk_none hm, ?_⟩
    rcases bindR_inv h with ⟨e, h1, rfl⟩ | ⟨as, st1, h1, h2⟩
    · exact t.ok E I h1 W _ k.err
    · refine t.ok E I h1 W _ fun N1 H1 e1 I1 vs r1 => ?_
      split at h2
      · rename_i x st2 hx2
        cases h2
        exact ⟨s, q, N1, .ob :: as, st1, x, _, I1, by rw [List.append_nil]; exact .cons (show EnR C s q full N1 H1 .ob (some (.ref s.a)) from ⟨rfl, dx, hx⟩) r1, hx2, fun v N' H' e2 I2 p => k _ _ (e1.trans e2) I2 v p⟩
      · cases h2
  · cases h⟩
def dMethX [Ni C] (R : Tab) (f j : Nat) (m : Str) (hm : m ∉ C.on) (t : DA C) : DE C .fz := ⟨fun W => tMethS C.oc m (spX C R f) (WE W.W) (tVar j) (t.ta W), fun ρ st => match ρ[j]? with
  | some .ob => bindR (t.ev ρ st) fun as st1 => R f (.ob :: as) st1
  | _ => none, fun {s q H0 N σ H ρ st st' r} E I h W Q k => by
  split at h
  · rename_i hj
    obtain ⟨o, ho, rfl, dx, hx⟩ := E.get hj
    obtain ⟨vs0, f1, f2, f3⟩ := I.ob hx
    refine ⟨_, ho, _, dx, _, rfl, f1, lk_none hm, ?_⟩
    rcases bindR_inv h with ⟨e, h1, rfl⟩ | ⟨as, st1, h1, h2⟩
    · exact t.ok E I h1 W _ k.err
    · refine t.ok E I h1 W _ fun N1 H1 e1 I1 vs r1 => ?_
      exact ⟨s, q, N1, .ob :: as, st1, r, st', I1, .cons (show EnR C s q full N1 H1 .ob (some (.ref s.a)) from ⟨rfl, dx, hx⟩) r1, h2, k.step e1⟩
  · cases h⟩
end
end De

/-! A field that holds a list of pairs (data, list); objects are made. -/
namespace De
open PySem L2 Dx
section
variable {C : Ct} {k : Kd} {s : Sx} {q : Sq} {N0 N N1 N' : Addr → Prop} {H0 H H1 H' : Hp} {σ : L2.St} {ρ ρ' : Rho} {st st' st1 : Ds} {W : WX} {D : Ends} {fl : Fl} {K : PySem.W.Frag} {o : Option Addr}
theorem paired_d {G : V → Fld → Prop} (m : ∀ v x, FldR K s o N H v (.d x) → G v (.d x)) : ∀ {vs : List V} {fs : List Fld}, Paired (FldR K s o N H) vs fs → (fs.all fun f => match f with | .d _ => true | _ => false) = true → Paired G vs fs
  | _, _, .nil, _ => .nil
  | _, f :: fs, .cons h r, ho => by
    rw [List.all_cons, Bool.and_eq_true] at ho
    refine .cons ?_ (paired_d m r ho.2)
    cases f with
    | d x => exact m _ _ h
    | w ps => cases ho.1
/-- one field is changed, all others are data -/
theorem paired_w {G : V → Fld → Prop} (m : ∀ v x, FldR K s o N H v (.d x) → G v (.d x)) : ∀ {vs : List V} {fs : List Fld} {i : Nat} {y : V} {z : Fld}, Paired (FldR K s o N H) vs fs → onlyW fs i = true → vs[i]? = some y → G y z → Paired G vs (putL fs i z)
  | _, _, i, _, _, .nil, _, h, _ => by simp at h
  | _, f :: fs, 0, _, _, .cons _ r, ho, h, g => by
    cases h
    refine .cons g ?_
    have ho : (fs.all fun f => match f with | .d _ => true | _ => false) = true := ho
    exact paired_d m r ho
  | _, f :: fs, i + 1, _, _, .cons h0 r, ho, h, g => by
    cases f with
    | w ps => cases ho
    | d x => exact .cons (m _ _ h0) (paired_w m r ho h g)
/-- a list that the object holds -/
theorem Iv.wf [Ni C] (I : Iv C s q N H st) {dx : Addr} (hx : q.ob = some dx) {i : Nat} {ps : List (PyData × List PyData)} (hi : st.fs[i]? = some (.w ps)) : ∃ vs l ts, H s.a = some (.ins C.oc dx (C.on.zip vs)) ∧ vs.length ≤ C.on.length ∧ Paired (FldR C.K s q.wl N H) vs st.fs ∧ vs[i]? = some (.ref l) ∧ (∀ z, q.wl = some z → l = z) ∧ W3 C.K s N H l ts ps := by
  obtain ⟨vs, h1, h2, h3⟩ := I.ob hx
  obtain ⟨v, hv, l, ts, rfl, ez, w⟩ := paired_get h3 hi
  exact ⟨vs, l, ts, h1, h2, h3, hv, ez, w⟩
/-- a list that the object may hold is changed, some are frozen -/
theorem Sv.setW [Ni C] (v : Sv C s q N0 H0 N H σ ρ st) {dx : Addr} (hx : q.ob = some dx) {i : Nat} {vs : List V} {l l0 : Addr} {us ys : List V} {ts : List Tr3} {ps : List (PyData × List PyData)}
    (h1 : H s.a = some (.ins C.oc dx (C.on.zip vs))) (h2 : vs.length ≤ C.on.length) (h3 : Paired (FldR C.K s q.wl N H) vs st.fs) (hv : vs[i]? = some (.ref l)) (ho : onlyW st.fs i = true)
    (hS : s.S l0) (hl : H l0 = some (.lst us)) (hn : ¬ N l0) (nn : ∀ a, N a → N' a) (nw : ∀ a, N' a → N a ∨ s.S a ∧ H a ≠ none) (ez : ∀ z, q.wl = some z → l = z) (w : W3 C.K s N' (upd H l0 (.lst ys)) l ts ps) :
    Sv C s q N0 H0 N' (upd H l0 (.lst ys)) σ ρ { st with fs := putL st.fs i (.w ps) } ∧ Fx N H N' (upd H l0 (.lst ys)) := by
  have X : Xt s N H N' (upd H l0 (.lst ys)) :=
    ⟨fun a o n h _ => by rw [upd_ne (by rintro rfl; exact n.2 hS)]; exact h, fun a o z g h _ => by rw [upd_ne (by rintro rfl; rw [hl] at h; cases h; exact g.elim (fun z => by cases z) hn)]; exact h, fun a h z => h (upd_none z), nn, fun a h => (nw a h).imp id fun h => .inr h.1⟩
  have ne : s.a ≠ l0 := by rintro e; exact v.I.sS (by rw [e]; exact hS)
  have I2 : Iv C s q N' (upd H l0 (.lst ys)) { st with fs := putL st.fs i (.w ps) } := by
    refine ⟨fun a h z => ?_, fun h => (nw _ h).elim v.I.ns fun h => v.I.sS h.1, StO.of hx (vs := vs) (by rw [upd_ne ne]; exact h1) h2 ?_, v.I.hq.keep X.kp0, v.I.sc, v.I.nS, v.I.sS, fun m a h => v.I.fS m a (upd_none h), v.I.pn, tabs_upd v.I.tb hl rfl⟩
    · exact (nw a h).elim (fun h => v.I.na a h (upd_none z)) fun h => h.2 (upd_none z)
    · exact paired_w (fun v0 x h => v.I.rp X h) h3 ho hv ⟨l, ts, rfl, ez, w⟩
  exact ⟨v.xt X I2, X.fx v.I⟩
theorem W3.lst {l : Addr} {ts : List Tr3} {ps : List (PyData × List PyData)} (w : W3 K s N H l ts ps) {t : Tr3} (ht : t ∈ ts) : ∃ xs, H t.2.2 = some (.lst xs) := by
  obtain ⟨j, hj, e⟩ := List.mem_iff_getElem.mp ht
  have hj2 : j < ps.length := by rw [← w.len]; exact hj
  obtain ⟨_, _, _, _, xs, h, _⟩ := w.at_ j t ps[j] (by rw [List.getElem?_eq_getElem hj, e]) (List.getElem?_eq_getElem hj2)
  exact ⟨xs, h⟩
theorem W3.last {l : Addr} {ts : List Tr3} {ps : List (PyData × List PyData)} {p : PyData × List PyData} (w : W3 K s N H l ts ps) (hp : ps[ps.length - 1]? = some p) : ∃ t xs, ts[ts.length - 1]? = some t ∧ t ∈ ts ∧ H t.1 = some (.tup [t.2.1, .ref t.2.2]) ∧ Rp K N H t.2.1 p.1 ∧ ¬ N t.2.2 ∧ s.S t.2.2 ∧ H t.2.2 = some (.lst xs) ∧ RpAll K N H xs p.2 := by
  have hlt : ts.length - 1 < ts.length := by
    have := (List.getElem?_eq_some_iff.mp hp).1
    rw [w.len]
    exact this
  have e1 : ts[ts.length - 1]? = some ts[ts.length - 1] := List.getElem?_eq_getElem hlt
  obtain ⟨h3, h4, h5, h6, xs, h7, h8⟩ := w.at_ _ _ p e1 (by rw [w.len]; exact hp)
  exact ⟨_, xs, e1, List.mem_of_getElem? e1, h3, h4, h5, h6, h7, h8⟩
theorem m1_atm {ts : List Tr3} {t : Tr3} (ht : ts[ts.length - 1]? = some t) : atI (m1 ts) (-1) = some (.ref t.1) := by
  have hlt := (List.getElem?_eq_some_iff.mp ht).1
  unfold atI ixN
  rw [if_neg (by omega), List.length_map, if_pos (by omega)]
  show (m1 ts)[(-1 + (ts.length : Int)).toNat]? = _
  rw [show (-1 + (ts.length : Int)).toNat = ts.length - 1 by omega, List.getElem?_map, ht]
  rfl
theorem W3.push {l t c : Addr} {u : V} {x : PyData} {ts : List Tr3} {ps : List (PyData × List PyData)} (w : W3 K s N H l ts ps) (hc : H c = some (.lst [])) (ht : H t = some (.tup [u, .ref c])) (hcl : c ≠ l) (hcn : ∀ t, t ∈ ts → t.2.2 ≠ c) (nn : ¬ N c) (cs : s.S c) (r : Rp K N H u x) :
    W3 K s N (upd H l (.lst (m1 (ts ++ [(t, u, c)])))) l (ts ++ [(t, u, c)]) (ps ++ [(x, [])]) := by
  refine ⟨w.nn, w.sl, upd_same, fun y hy => ?_, ?_, by rw [List.length_append, List.length_append, w.len]; rfl, fun j y p h1 h2 => ?_⟩
  · rcases List.mem_append.mp hy with hy | hy
    · exact w.out y hy
    · cases List.mem_singleton.mp hy
      exact hcl
  · rw [List.map_append]
    refine List.nodup_append.mpr ⟨w.nd, by simp, fun a ha b hb => ?_⟩
    obtain ⟨y, hy, rfl⟩ := List.mem_map.mp ha
    cases List.mem_singleton.mp hb
    exact hcn y hy
  · by_cases hj : j < ts.length
    · rw [List.getElem?_append_left hj] at h1
      rw [List.getElem?_append_left (by rw [← w.len]; exact hj)] at h2
      obtain ⟨h3, h4, h5, h6, xs, h7, h8⟩ := w.at_ j y p h1 h2
      exact ⟨by rw [upd_ne (by rintro e; rw [e, w.hl] at h3; cases h3)]; exact h3, rp_mut w.hl w.nn h4, h5, h6, xs, by rw [upd_ne (w.out y (List.mem_of_getElem? h1))]; exact h7, rps_mut w.hl w.nn h8⟩
    · rw [List.getElem?_append_right (Nat.le_of_not_lt hj)] at h1
      rw [List.getElem?_append_right (by rw [← w.len]; exact Nat.le_of_not_lt hj), ← w.len] at h2
      cases hjj : j - ts.length with
      | zero =>
        rw [hjj] at h1 h2
        cases h1
        cases h2
        exact ⟨by rw [upd_ne (by rintro rfl; rw [w.hl] at ht; cases ht)]; exact ht, rp_mut w.hl w.nn r, nn, cs, [], by rw [upd_ne hcl]; exact hc, .nil⟩
      | succ m =>
        rw [hjj] at h1
        simp at h1
theorem W3.app {l : Addr} {ts : List Tr3} {ps : List (PyData × List PyData)} {p : PyData × List PyData} {t : Tr3} {ys : List V} {es : List PyData} (w : W3 K s N H l ts ps) (hp : ps[ps.length - 1]? = some p) (ht : ts[ts.length - 1]? = some t) (r : RpAll K N H ys es) : W3 K s N (upd H t.2.2 (.lst ys)) l ts (ps.set (ps.length - 1) (p.1, es)) := by
  have hm := List.mem_of_getElem? ht
  have hlt := (List.getElem?_eq_some_iff.mp ht).1
  have hne : l ≠ t.2.2 := fun z => w.out t hm z.symm
  obtain ⟨xs0, hl0⟩ := w.lst hm
  refine ⟨w.nn, w.sl, by rw [upd_ne hne]; exact w.hl, w.out, w.nd, by rw [List.length_set]; exact w.len, fun j y z h1 h2 => ?_⟩
  by_cases hj : ps.length - 1 = j
  · subst hj
    rw [List.getElem?_set_self (by rw [← w.len]; rw [← w.len] at *; omega)] at h2
    cases h2
    rw [← w.len, ht] at h1
    cases h1
    obtain ⟨h3, h4, h5, h6, xs, h7, h8⟩ := w.at_ _ t p ht (by rw [w.len]; exact hp)
    exact ⟨by rw [upd_ne (by rintro e; rw [e, hl0] at h3; cases h3)]; exact h3, rp_mut hl0 h5 h4, h5, h6, ys, upd_same, rps_mut hl0 h5 r⟩
  · rw [List.getElem?_set_ne hj] at h2
    obtain ⟨h3, h4, h5, h6, xs, h7, h8⟩ := w.at_ j y z h1 h2
    obtain ⟨_, _, nt, _⟩ := w.at_ _ t p ht (by rw [w.len]; exact hp)
    have hyt : y.2.2 ≠ t.2.2 := fun e => hj (by rw [← w.len]; exact (nd_last w.nd ht h1 e).symm)
    exact ⟨by rw [upd_ne (by rintro e; rw [e, hl0] at h3; cases h3)]; exact h3, rp_mut hl0 nt h4, h5, h6, xs, by rw [upd_ne hyt]; exact h7, rps_mut hl0 nt h8⟩
/-- the last pair is taken away, its list is frozen -/
theorem W3.pop {l : Addr} {ts : List Tr3} {ps : List (PyData × List PyData)} {t : Tr3} (w : W3 K s N H l ts ps) (ht : ts[ts.length - 1]? = some t) : W3 K s (fzN N t.2.2) (upd H l (.lst (m1 ts.dropLast))) l ts.dropLast ps.dropLast := by
  have hm := List.mem_of_getElem? ht
  refine ⟨fun z => z.elim w.nn fun e => w.out t hm e.symm, w.sl, upd_same, fun y hy => w.out y (List.dropLast_subset _ hy), ?_, by rw [List.length_dropLast, List.length_dropLast, w.len], fun j y p h1 h2 => ?_⟩
  · rw [List.map_dropLast]
    exact w.nd.sublist (List.dropLast_sublist _)
  · rw [List.getElem?_dropLast] at h1 h2
    split at h1
    · rename_i hj
      split at h2
      · obtain ⟨h3, h4, h5, h6, xs, h7, h8⟩ := w.at_ j y p h1 h2
        exact ⟨by rw [upd_ne (by rintro e; rw [e, w.hl] at h3; cases h3)]; exact h3, rp_fz (rp_mut w.hl w.nn h4), fun z => z.elim h5 fun e => absurd (nd_last w.nd ht h1 e) (by omega), h6, xs, by rw [upd_ne (w.out y (List.mem_of_getElem? h1))]; exact h7, rps_fz (rps_mut w.hl w.nn h8)⟩
      · cases h2
    · cases h1
/-! ### its words -/
/-- len(self.f) -/
def dWLen [Ni C] (O : ObOk C) (j i : Nat) (f : Str) (hf : FAt C i f) : DE C .fz := ⟨fun _ => tCB (bLen C).r (tCons (tFld C.K (tVar j) f) tNil), fun ρ st => match ρ[j]?, st.fs[i]? with
  | some .ob, some (.w ps) => some (.ok (.int ps.length), st)
  | _, _ => none, fun {s q H0 N σ H ρ st st' r} E I h W Q k => by
  split at h
  · rename_i ps hj hi
    cases h
    obtain ⟨o, ho, rfl, dx, hx⟩ := E.get hj
    obtain ⟨vs, l, ts, h1, h2, h3, hv, ez, w⟩ := I.wf hx hi
    exact ⟨_, ho, _, _, dx, _, _, rfl, h1, O.cls, O.na _ (List.mem_of_getElem? hf.1), lk_zip hf.1 hf.2 hv, _, _, rfl, .inl ⟨_, SqL.of w.hl, rfl⟩, k _ _ .refl I _ (by rw [List.length_map, w.len]; exact .int _)⟩
  · cases h⟩
/-- self.f[-1][0] -/
def dWName [Ni C] (O : ObOk C) (j i : Nat) (f : Str) (hf : FAt C i f) : DE C .fz := ⟨fun _ => tOp (rIxT C.K) (tOp (rIxL C.K) (tFld C.K (tVar j) f) (tUn (rU fun i => .int (-i)) (tC (.int 1)))) (tC (.int 0)), fun ρ st => match ρ[j]?, st.fs[i]? with
  | some .ob, some (.w ps) => match ps[ps.length - 1]? with
    | some p => some (.ok p.1, st)
    | none => none
  | _, _ => none, fun {s q H0 N σ H ρ st st' r} E I h W Q k => by
  split at h
  · rename_i ps hj hi
    split at h
    · rename_i p hp
      cases h
      obtain ⟨o, ho, rfl, dx, hx⟩ := E.get hj
      obtain ⟨vs, l, ts, h1, h2, h3, hv, ez, w⟩ := I.wf hx hi
      obtain ⟨t, xs, ht, hm, g1, g2, g3, g4, g5, g6⟩ := w.last hp
      exact ⟨_, ho, _, _, dx, _, _, rfl, h1, O.cls, O.na _ (List.mem_of_getElem? hf.1), lk_zip hf.1 hf.2 hv, 1, rfl, l, m1 ts, -1, .ref t.1, rfl, rfl, SqL.of w.hl, m1_atm ht, t.1, [t.2.1, .ref t.2.2], 0, t.2.1, rfl, rfl, .inl (.inl g1), rfl, k _ _ .refl I _ g2⟩
    · cases h
  · cases h⟩
/-- self.f[-1][1].append(x) -/
def sWApp [Ni C] (O : ObOk C) (j i : Nat) (f : Str) (hf : FAt C i f) (m : Nat) : DSt C := ⟨fun _ => tDrop (tBM C.K "list" rAppend (tOp (rIxT C.K) (tOp (rIxL C.K) (tFld C.K (tVar j) f) (tUn (rU fun i => .int (-i)) (tC (.int 1)))) (tC (.int 1))) (tCons (tVar m) tNil)), fun ρ st => match ρ[j]?, st.fs[i]?, ρ[m]? with
  | some .ob, some (.w ps), some (.d x) => match ps[ps.length - 1]? with
    | some p => if onlyW st.fs i = true ∧ p.2.length < 100000 then some (.nx, ρ, { st with fs := putL st.fs i (.w (ps.set (ps.length - 1) (p.1, p.2 ++ [x]))) }) else none
    | none => none
  | _, _, _ => none, fun {s q N0 H0 N H σ ρ ρ' st st' fl} v h W D k => by
  split at h
  · rename_i ps x hj hi hm
    split at h
    · rename_i p hp
      split at h
      · rename_i hc
        cases h
        obtain ⟨o, ho, rfl, dx, hx⟩ := v.E.get hj
        obtain ⟨o2, ho2, u, rfl, hu⟩ := v.E.get hm
        obtain ⟨vs, l, ts, h1, h2, h3, hv, ez, w⟩ := v.I.wf hx hi
        obtain ⟨t, xs, ht, hmm, g1, g2, g3, g4, g5, g6⟩ := w.last hp
        refine ⟨_, ho, _, _, dx, _, _, rfl, h1, O.cls, O.na _ (List.mem_of_getElem? hf.1), lk_zip hf.1 hf.2 hv, 1, rfl, l, m1 ts, -1, .ref t.1, rfl, rfl, SqL.of w.hl, m1_atm ht, t.1, [t.2.1, .ref t.2.2], 1, .ref t.2.2, rfl, rfl, .inl (.inl g1), atI_1, tyV_lst g5, u, ho2, ?_⟩
        obtain ⟨v2, f2⟩ := v.setW hx h1 h2 h3 hv hc.1 g4 g5 g3 (fun _ h => h) (fun _ h => .inl h) ez (w.app hp ht (g6.app (.cons hu .nil)))
        exact ⟨t.2.2, xs, u, rfl, rfl, g5, by rw [g6.length]; exact sz_lt hc.2, k _ _ _ v2 f2⟩
      · cases h
    · cases h
  · cases h⟩
/-- x, y = self.f.pop() -/
def sWPop [Ni C] (O : ObOk C) (j i : Nat) (f : Str) (hf : FAt C i f) (a b : Nat) : DSt C := ⟨fun _ => tAsg (tBM0 C.K "list" rPop (tFld C.K (tVar j) f)) (gTup C.K 2 (gCons (gName a) (gCons (gName b) gNil))), fun ρ st => match ρ[j]?, st.fs[i]? with
  | some .ob, some (.w ps) => match ps[ps.length - 1]? with
    | some p => if onlyW st.fs i = true then some (.nx, (ρ.set a (.d p.1)).set b (.d (.list p.2)), { st with fs := putL st.fs i (.w ps.dropLast) }) else none
    | none => none
  | _, _ => none, fun {s q N0 H0 N H σ ρ ρ' st st' fl} v h W D k => by
  split at h
  · rename_i ps hj hi
    split at h
    · rename_i p hp
      split at h
      · rename_i hc
        cases h
        obtain ⟨o, ho, rfl, dx, hx⟩ := v.E.get hj
        obtain ⟨vs, l, ts, h1, h2, h3, hv, ez, w⟩ := v.I.wf hx hi
        obtain ⟨t, xs, ht, hmm, g1, g2, g3, g4, g5, g6⟩ := w.last hp
        have hlt := (List.getElem?_eq_some_iff.mp ht).1
        have hne : t.2.2 ≠ l := w.out t hmm
        refine ⟨_, ho, _, _, dx, _, _, rfl, h1, O.cls, O.na _ (List.mem_of_getElem? hf.1), lk_zip hf.1 hf.2 hv, tyV_lst w.hl, l, m1 ts, .ref t.1, rfl, rfl, w.hl, by rw [List.length_map, List.getElem?_map, ht]; rfl, ?_⟩
        obtain ⟨v2, f2⟩ := v.setW (ys := m1 ts.dropLast) hx h1 h2 h3 hv hc w.sl w.hl w.nn (N' := fzN N t.2.2) (fun _ h => .inl h) (fun a h => h.imp id fun e => by rw [e]; exact ⟨g4, by rw [g5]; exact fun z => by cases z⟩) ez (w.pop ht)
        have em : ((m1 ts).dropLast) = m1 ts.dropLast := by rw [m1, m1, List.map_dropLast]
        rw [em]
        refine ⟨t.1, [t.2.1, .ref t.2.2], rfl, .inl (.inl (by rw [upd_ne (by rintro e; rw [e, w.hl] at g1; cases g1)]; exact g1)), rfl, ?_⟩
        have r1 : Rp C.K (fzN N t.2.2) (upd H l (.lst (m1 ts.dropLast))) t.2.1 p.1 := rp_fz (rp_mut w.hl w.nn g2)
        have r2 : Rp C.K (fzN N t.2.2) (upd H l (.lst (m1 ts.dropLast))) (.ref t.2.2) (.list p.2) := .lst (.inr rfl) (by rw [upd_ne hne]; exact g5) (rps_fz (rps_mut w.hl w.nn g6))
        exact ⟨_, _, rfl, _, _, rfl, rfl, k _ _ _ ((v2.setD r1).setD r2) f2⟩
      · cases h
    · cases h
  · cases h⟩
/-- self.f.append((a, [])) -/
def sWPush [Ni C] (hmd : C.md = true) (O : ObOk C) (j i : Nat) (f : Str) (hf : FAt C i f) (a : DE C .fz) : DSt C := ⟨fun W => tDrop (tBM C.K "list" rAppend (tFld C.K (tVar j) f) (tCons (tPr (a.te W)) tNil)), fun ρ st => match ρ[j]?, st.fs[i]? with
  | some .ob, some (.w _) => bindS (a.ev ρ st) ρ fun x st1 => match st1.fs[i]? with
    | some (.w ps) => if st.pin = true ∧ st1.pin = true ∧ onlyW st1.fs i = true ∧ ps.length < 100000 then some (.nx, ρ, { st1 with fs := putL st1.fs i (.w (ps ++ [(x, [])])) }) else none
    | _ => none
  | _, _ => none, fun {s q N0 H0 N H σ ρ ρ' st st' fl} v h W D k => by
  split at h
  · rename_i ps0 hj hi
    obtain ⟨o, ho, rfl, dx, hx⟩ := v.E.get hj
    obtain ⟨vs0, l0, ts0, a1, a2, a3, av, az, aw⟩ := v.I.wf hx hi
    refine ⟨_, ho, _, _, dx, _, _, rfl, a1, O.cls, O.na _ (List.mem_of_getElem? hf.1), lk_zip hf.1 hf.2 av, tyV_lst aw.hl, ?_⟩
    rcases bindS_inv h with ⟨e, h1, rfl, rfl⟩ | ⟨x, st1, h1, h2⟩
    · exact a.ok v.E v.I h1 W _ (SOut.out v k)
    · refine a.ok v.E v.I h1 W _ fun N1 H1 e1 I1 u r1 => ?_
      split at h2
      · rename_i ps hi1
        split at h2
        · rename_i hc
          cases h2
          obtain ⟨vs, l, ts, b1, b2, b3, bv, bz, w⟩ := I1.wf hx hi1
          have hll : l0 = l := by
            have e := I1.pn
            rw [hc.2.1] at e
            cases hz : q.wl with
            | none => rw [hz] at e; cases e
            | some z => rw [az z hz, bz z hz]
          subst hll
          refine ⟨sz_of (show 0 ≤ 100000 by omega), fun c hcn => ⟨sz_of (show 2 ≤ 100000 by omega), fun t ht => ?_⟩⟩
          have v1 := v.xt e1 I1
          have X1 : Xt s N1 H1 N1 (upd H1 c (.lst [])) := Xt.new hcn
          have I2 := I1.new (o := .lst []) hcn
          have X2 : Xt s N1 (upd H1 c (.lst [])) N1 (upd (upd H1 c (.lst [])) t (.tup [u, .ref c])) := Xt.new ht
          have I3 := I2.new (o := .tup [u, .ref c]) ht
          have X3 := X1.trans X2
          have v3 := v1.xt X3 I3
          have hct : c ≠ t := by rintro rfl; rw [upd_same] at ht; cases ht
          have hc3 : (upd (upd H1 c (.lst [])) t (.tup [u, .ref c])) c = some (.lst []) := by rw [upd_ne hct]; exact upd_same
          obtain ⟨vs3, l3, ts3, c1, c2, c3, cv, cz, _⟩ := I3.wf hx hi1
          have hl3 : l3 = l0 := by
            have e := I1.pn
            rw [hc.2.1] at e
            cases hz : q.wl with
            | none => rw [hz] at e; cases e
            | some z => rw [az z hz, cz z hz]
          subst hl3
          have S3 : ∀ a o, H1 a = some o → (upd (upd H1 c (.lst [])) t (.tup [u, .ref c])) a = some o := fun a o h => same_new ht a o (same_new hcn a o h)
          have w3 : W3 C.K s N1 (upd (upd H1 c (.lst [])) t (.tup [u, .ref c])) l3 ts ps := w.mono (fun a o _ h => S3 a o h) (fun a o _ h _ => S3 a o h) (fun _ _ _ h => h) (fun _ _ h => I1.rp X3 h) fun _ _ h => I1.rps X3 h
          have hcl : c ≠ l3 := by rintro rfl; rw [w.hl] at hcn; cases hcn
          have hcn2 : ∀ t, t ∈ ts → t.2.2 ≠ c := fun y hy => by
            rintro rfl
            obtain ⟨xs, hx⟩ := w.lst hy
            rw [hx] at hcn
            cases hcn
          have np : ¬ N1 c := fun z => I1.na c z hcn
          have cs : s.S c := I1.fS hmd c hcn
          have w4 := w3.push hc3 upd_same hcl hcn2 np cs (I1.rp X3 r1)
          obtain ⟨v4, f4⟩ := v3.setW hx c1 c2 c3 cv hc.2.2.1 w.sl w3.hl w.nn (fun _ h => h) (fun _ h => .inl h) cz w4
          refine ⟨l3, m1 ts, .ref t, rfl, rfl, w3.hl, by rw [List.length_map, w.len]; exact sz_lt hc.2.2.2, ?_⟩
          have em : m1 ts ++ [.ref t] = m1 (ts ++ [(t, u, c)]) := by rw [m1, m1, List.map_append]; rfl
          rw [em]
          exact k _ _ _ v4 (((e1.trans X3).fx v.I).trans f4)
        · cases h2
      · cases h2
  · cases h⟩
/-- self.f = [] -/
def sWNew [Ni C] (hmd : C.md = true) (O : ObOk C) (j i : Nat) (f : Str) (hf : FAt C i f) : DSt C := ⟨fun _ => sFld C.K (tVar j) (tLst tNil) f, fun ρ st => match ρ[j]? with
  | some .ob => if i ≤ st.fs.length ∧ st.pin = false then some (.nx, ρ, { st with fs := putL st.fs i (.w []) }) else none
  | _ => none, fun {s q N0 H0 N H σ ρ ρ' st st' fl} v h W D k => by
  split at h
  · rename_i hj
    split at h
    · rename_i hc
      cases h
      obtain ⟨o, ho, rfl, dx, hx⟩ := v.E.get hj
      refine ⟨sz_of (show 0 ≤ 100000 by omega), fun l hl => ?_⟩
      have X1 : Xt s N H N (upd H l (.lst [])) := Xt.new hl
      have I1 := v.I.new (o := .lst []) hl
      obtain ⟨vs, g1, g2, g3⟩ := I1.ob hx
      have v1 := v.xt X1 I1
      have hz : q.wl = none := by
        have e := v.I.pn
        rw [hc.2] at e
        cases hz : q.wl with
        | none => rfl
        | some z => rw [hz] at e; cases e
      have w : W3 C.K s N (upd H l (.lst [])) l [] [] := ⟨fun z => v.I.na l z hl, v.I.fS hmd l hl, upd_same, fun t ht => (by cases ht), List.nodup_nil, rfl, fun j t p h1 _ => by simp at h1⟩
      refine ⟨_, ho, _, _, dx, _, rfl, g1, O.cls, O.na _ (List.mem_of_getElem? hf.1), ?_, ?_⟩
      · exact Nat.lt_of_le_of_lt (by rw [List.length_zip]; exact Nat.min_le_left _ _) O.len
      · exact k _ _ _ (v1.xt (Xt.atS I1) (I1.putG hx g2 g3 hf hc.1 (x := .w []) ⟨l, [], rfl, fun z h => (by rw [hz] at h; cases h), w⟩)) ((X1.trans (Xt.atS I1)).fx v.I)
    · cases h
  · cases h⟩
/-! ### objects are made -/
abbrev mC (C : Ct) (oc : Addr) (on : List Str) : Ct := { C with md := true, oc := oc, on := on, lm := false }
def allD : List En → Bool
  | [] => true
  | .d _ :: r => allD r
  | _ :: _ => false
theorem ob_back {H3 : Hp} {N3 : Addr → Prop} (I1 : Iv C s q N1 H1 st1) (hS : ∀ a o, H1 a = some o → ntb o = true → H3 a = some o) (ks : ∀ a, H1 a ≠ none → H3 a ≠ none) (na : ∀ a, N3 a → H3 a ≠ none) (nn : ∀ a, N1 a → N3 a) (nw : ∀ a, N3 a → N1 a ∨ H1 a = none) (tb : NdefX.TabsN C.T H3) : Xt s N1 H1 N3 H3 ∧ Iv C s q N3 H3 st1 := by
  have X : Xt s N1 H1 N3 H3 := ⟨fun a o _ h t => hS a o h t, fun a o _ _ h t => hS a o h t, ks, nn, fun a h => (nw a h).imp id fun h => .inl h⟩
  exact ⟨X, na, fun h => (nw _ h).elim I1.ns fun h => I1.nf h, I1.hs.mono (fun o h t => hS _ o h t) (fun a o g h => hS a o h (ntb_od g)) (fun a o _ h t => hS a o h t) (fun a _ h1 h2 => (nw a h2).elim id fun z => absurd z h1) (fun _ _ h => I1.rp X h) (fun _ _ h => I1.rps X h), I1.hq.keep X.kp0, I1.sc, I1.nS, I1.sS, fun m a h => I1.fS m a (X.free h), I1.pn, tb⟩
def kd : En → En
  | .d x => .d x
  | _ => .no
theorem putL_same {α : Type} {z : α} : ∀ {xs : List α} {i : Nat}, xs[i]? = some z → putL xs i z = xs
  | [], _, h => by simp at h
  | _ :: r, 0, h => by cases h; rfl
  | x :: r, i + 1, h => congrArg (x :: ·) (putL_same (i := i) h)
theorem args_md {oc : Addr} {on : List Str} {s2 : Sx} {q2 : Sq} (r : ∀ v x, Rp C.K N H v x → Rp C.K N' H' v x) : ∀ {vs : List V} {as : List En}, Paired (fun v n => EnR C s q full N H n (some v)) vs as → allD as = true → Paired (fun v n => EnR (mC C oc on) s2 q2 full N' H' n (some v)) vs as
  | _, _, .nil, _ => .nil
  | _, e :: _, .cons h t, ha => by
    cases e with
    | d x =>
      obtain ⟨v, e, h⟩ := h
      exact .cons ⟨v, e, r _ _ h⟩ (args_md r t ha)
    | _ => cases ha
/-- x = Cls(..), and what follows, where the object is known -/
def sOb (oc : Addr) (on : List Str) (wi : Nat) (R : Tab) (f j : Nat) (t : DA C) (rest : DSt (mC C oc on)) : DSt C := ⟨fun W => tSeq (tAsg (tMake oc (spF (mC C oc on) R f) [] E0 (t.ta W)) (gName j)) (rest.ts W), fun ρ st =>
  bindS (t.ev ρ st) ρ fun as st1 => if allD as = true then match R f (.ob :: as) ⟨st1.scr, st1.st, [], false, []⟩ with
    | some (.ok .none, st2) => match st2.fs[wi]? with
      | some (.w _) => if onlyW st2.fs wi = true ∧ st2.pin = false then match rest.ev ((ρ.map kd).set j .ob) { st2 with pin := true } with
        | some (.nx, ρ', _) => some (.nx, ρ'.map fun _ => .no, st1)
        | some (.rt x, ρ', _) => some (.rt x, ρ'.map fun _ => .no, st1)
        | some (.xc e, ρ', _) => some (.xc e, ρ'.map fun _ => .no, st1)
        | _ => none else none
      | _ => none
    | _ => none else none, fun {s q N0 H0 N H σ ρ ρ' st st' fl} v h W D k => by
  rcases bindS_inv h with ⟨e, h1, rfl, rfl⟩ | ⟨as, st1, h1, h2⟩
  · exact t.ok v.E v.I h1 W _ (SOut.out v k)
  · refine t.ok v.E v.I h1 W _ fun N1 H1 e1 I1 vs r1 => fun x dx hx hdx hne => ?_
    split at h2
    rotate_left
    · cases h2
    rename_i hall
    split at h2
    rotate_left
    · cases h2
    rename_i st2 hR
    split at h2
    rotate_left
    · cases h2
    rename_i ps hwi
    split at h2
    rotate_left
    · cases h2
    rename_i hc
    let s2 : Sx := ⟨x, fun a => H1 a = none ∧ a ≠ x⟩
    let q1 : Sq := { q with ob := some dx, wl := none }
    let CM : Ct := mC C oc on
    let H2 : Hp := upd (upd H1 dx (.own x)) x (.ins oc dx [])
    have S2 : ∀ a o, H1 a = some o → H2 a = some o := fun a o h => by
      show upd _ _ _ _ = _
      rw [upd_ne (ne_of_none h hx), upd_ne (ne_of_none h hdx)]
      exact h
    have F2 : ∀ a, H2 a = none → H1 a = none := fun a h => upd_none (upd_none h)
    have some1 : ∀ {a : Addr}, H1 a ≠ none → ∃ o, H1 a = some o := fun {a} h => by
      cases hz : H1 a with
      | none => exact absurd hz h
      | some o => exact ⟨o, rfl⟩
    have I2 : Iv CM s2 q1 N1 H2 ⟨st1.scr, st1.st, [], false, []⟩ := by
      refine ⟨fun a n z => I1.na a n (F2 a z), fun n => I1.na _ n hx, StO.of (C := CM) (dx := dx) rfl (vs := []) (show H2 x = some (.ins oc dx (on.zip [])) by rw [show on.zip ([] : List V) = [] by cases on <;> rfl]; exact upd_same) (Nat.zero_le _) .nil, ?_, I1.sc, fun z => (by cases z), fun z => z.2 rfl, fun _ a h => ⟨F2 a h, fun e => (by rw [e, show H2 x = _ from upd_same] at h; cases h)⟩, rfl, fun p hp => (I1.tb p hp).ext S2⟩
      rcases I1.hq with ⟨h | ⟨o, h⟩, n⟩ | h
      · exact .inl ⟨.inl (S2 _ _ h), ne_of_none h hx, fun z => (by have z1 := z.1; rw [h] at z1; cases z1)⟩
      · exact .inl ⟨.inr ⟨o, S2 _ _ h⟩, ne_of_none h hx, fun z => (by have z1 := z.1; rw [h] at z1; cases z1)⟩
      · exact .inr h
    have XS : Xt s N1 H1 N1 H2 := Xt.same S2
    have r2 : Paired (fun v n => EnR CM s2 q1 full N1 H2 n (some v)) (.ref x :: (vs ++ [])) (.ob :: as) := by
      rw [List.append_nil]
      exact .cons (show EnR CM s2 q1 full N1 H2 .ob (some (.ref x)) from ⟨rfl, dx, rfl⟩) (args_md (fun _ _ h => I1.rp XS h) r1 hall)
    refine ⟨s2, q1, N1, .ob :: as, _, .none, st2, I2, r2, hR, fun v3 N3 H3 X3 I3 p3 => ⟨Rp.non_eq p3, ?_⟩⟩
    obtain ⟨vs3, l, ts, g1, g2, g3, gv, gz, gw⟩ := I3.wf (q := q1) rfl hwi
    let q2 : Sq := { q with ob := some dx, wl := some l }
    have I4 : Iv CM s2 q2 N3 H3 { st2 with pin := true } := by
      refine ⟨I3.na, I3.ns, StO.of (C := CM) (dx := dx) rfl (vs := vs3) g1 g2 ?_, I3.hq, I3.sc, I3.nS, I3.sS, I3.fS, rfl, I3.tb⟩
      have e := paired_w (o := none) (K := C.K) (G := FldR C.K s2 (some l) N3 H3) (fun v x h => h) (show Paired (FldR C.K s2 none N3 H3) vs3 st2.fs from g3) hc.1 gv (z := .w ps) ⟨l, ts, rfl, fun z h => Option.some.inj h, gw⟩
      rw [putL_same hwi] at e
      exact e
    have E4 : Ev CM s2 q2 H3 N3 H3 σ (ρ.map kd) := by
      refine ⟨by rw [List.length_map]; exact v.E.len, fun i e o g1 g2 => ?_, fun i j e f o u a _ g1 _ _ _ w _ => ?_⟩
      · rw [List.getElem?_map] at g1
        cases he : ρ[i]? with
        | none => rw [he] at g1; cases g1
        | some e0 =>
          rw [he] at g1
          cases g1
          have z := v.E.at_ i e0 o he g2
          cases e0 with
          | d y =>
            obtain ⟨u, g3, g4⟩ := z
            exact ⟨u, g3, I2.rp X3 (I1.rp XS (v.I.rp e1 g4))⟩
          | _ => exact trivial
      · rw [List.getElem?_map] at g1
        cases he : ρ[i]? with
        | none => rw [he] at g1; cases g1
        | some e0 =>
          rw [he] at g1
          cases g1
          cases e0 <;> exact w
    have v4 : Sv CM s2 q2 N3 H3 N3 H3 (σ.set j (some (.ref x))) ((ρ.map kd).set j .ob) { st2 with pin := true } :=
      ⟨E4.set (show EnR CM s2 q2 H3 N3 H3 .ob (some (.ref x)) from ⟨rfl, dx, rfl⟩) fun _ z => z.elim, I4, .refl, fun _ => trivial, I4.hq⟩
    have back : ∀ N' H' st3, Xt s2 N3 H3 N' H' → Iv CM s2 q2 N' H' st3 → Xt s N1 H1 N' H' ∧ Iv C s q N' H' st1 := fun N' H' st3 X5 I5 => by
      have X6 := X3.trans X5
      refine ob_back I1 (fun a o h t => X6.kp a o ⟨ne_of_none h hx, fun z => (by have z1 := z.1; rw [h] at z1; cases z1)⟩ (S2 a o h) t) (fun a h => X6.ks a fun z => h (F2 a z)) I5.na X6.nn (fun a h => ?_) I5.tb
      rcases X6.nw a h with h | h | h
      · exact .inl h
      · exact .inr (F2 a h)
      · exact .inr h.1
    have no : ∀ {N' H' σ' ρ1}, Ev CM s2 q2 H3 N' H' σ' ρ1 → Ev C s q H0 N' H' σ' (ρ1.map fun _ => En.no) := fun {N' H' σ' ρ1} E => by
      refine ⟨by rw [List.length_map]; exact E.len, fun i e o g1 g2 => ?_, fun i j e f o u a _ g1 _ _ _ w _ => ?_⟩
      · rw [List.getElem?_map] at g1
        cases he : ρ1[i]? with
        | none => rw [he] at g1; cases g1
        | some e0 => rw [he] at g1; cases g1; exact trivial
      · rw [List.getElem?_map] at g1
        cases he : ρ1[i]? with
        | none => rw [he] at g1; cases g1
        | some e0 => rw [he] at g1; cases g1; exact w
    cases hr : rest.ev ((ρ.map kd).set j .ob) { st2 with pin := true } with
    | none => rw [hr] at h2; cases h2
    | some z =>
      obtain ⟨f5, ρ5, st5⟩ := z
      rw [hr] at h2
      refine rest.ok v4 hr W D ?_
      cases f5 with
      | nx =>
        cases h2
        intro σ' N' H' v5 f5
        obtain ⟨X6, I6⟩ := back N' H' _ v5.X v5.I
        exact k σ' N' H' ⟨no v5.E, I6, v.X.trans (e1.trans X6), fun _ => trivial, v.hq⟩ ((e1.trans X6).fx v.I)
      | rt y =>
        cases h2
        intro u N' H' X5 I5 r5
        obtain ⟨X6, I6⟩ := back N' H' _ X5 I5
        exact k u N' H' (v.X.trans (e1.trans X6)) I6 r5
      | xc e =>
        cases h2
        intro d σ' N' H' v5 f5 r5
        obtain ⟨X6, I6⟩ := back N' H' _ v5.X v5.I
        exact k d σ' N' H' ⟨no v5.E, I6, v.X.trans (e1.trans X6), fun _ => trivial, v.hq⟩ ((e1.trans X6).fx v.I) r5
      | bk => cases h2
      | ct => cases h2⟩
end
end De

/-! Methods of an own class, an object that is made: how their words are derived; how they read. -/
namespace De
open PySem PySem.Spec PyProof.Rows L2 Dx Dg
/-- a method that may be called -/
structure Cm (P : Program) (w : World) (K : PySem.W.Frag) (mg : Str → Option Value) (base : Heap) (CX : CXT) (k : Nat) (c : Addr) (m : Str) (ps : List Str) (sp : Sp) : Prop where
  ex : ∃ f fd, FnOk P w K mg base CX k f fd ps sp ∧ Meth K c m f ∧ Binds K fd ps []
/-- a class that may be called -/
structure Ck (P : Program) (w : World) (K : PySem.W.Frag) (mg : Str → Option Value) (base : Heap) (CX : CXT) (k : Nat) (x : Str) (c : Addr) (ps : List Str) (sp : Sp) : Prop where
  ex : ∃ f fd, FnOk P w K mg base CX k f fd ps sp ∧ Mk K c f ∧ mg x = some (.ref c) ∧ Binds K fd ps []
section
variable {X : Cx} {j k : Nat} {c : Addr} {x m : Str} {ps : List Str} {sp : Sp} {p pos apos : Pos} {e o : Expr} {es : List Expr} {ta : TE} {t : TA} {W : WX} {pl : Sem Bool}
theorem pe_cm (cm : Cm X.prog X.w X.K X.mg X.base CX0 k c m ps sp) (cl : Cls X.K c) (hr : Room j X.A) (hk : k ≤ j) (he : PE X o ta) (ha : PA X (e :: es) t)
    (hst : starEach (e :: es) X.env = (false, eval e X.env) :: starEach es X.env := by rfl) (hpl : (backTo pos (starEach es X.env)).any (·.1) = false := by rfl)
    (ht : eval (.Call (.Attribute o m apos) (e :: es) [] pos) X.env = (do
      let ov ← eval o X.env
      standAt apos.atName
      let (f, first) ← holding [ov] (getMethod ov m pl)
      callWith pos f first (backTo pos (starEach (e :: es) X.env)) (backToKw pos (keywordEach [] X.env))) := by rfl) :
    PE X (.Call (.Attribute o m apos) (e :: es) [] pos) (tMeth c m sp [] E0 ta t) := by
  obtain ⟨f, fd, F, hm, b⟩ := cm.ex
  exact pe_meth he cl hm F (hr.mono hk) b .nil pass0 ha hst hpl ht
theorem pe_cm0 (cm : Cm X.prog X.w X.K X.mg X.base CX0 k c m ps sp) (cl : Cls X.K c) (hr : Room j X.A) (hk : k ≤ j) (he : PE X o ta)
    (ht : eval (.Call (.Attribute o m apos) [] [] pos) X.env = (do
      let ov ← eval o X.env
      standAt apos.atName
      let (f, first) ← holding [ov] (getMethod ov m pl)
      callWith pos f first (backTo pos (starEach [] X.env)) (backToKw pos (keywordEach [] X.env))) := by rfl) :
    PE X (.Call (.Attribute o m apos) [] [] pos) (tMeth c m sp [] E0 ta tNil) := by
  obtain ⟨f, fd, F, hm, b⟩ := cm.ex
  exact pe_meth0 he cl hm F (hr.mono hk) b .nil pass0 ht
theorem pe_cmS (cm : Cm X.prog X.w X.K X.mg X.base (L2.CX X.prog X.w) k c m ps sp) (cl : Cls X.K c) (hr : Room j X.A) (hk : k ≤ j) (tk : Takes X W) (he : PE X o ta) (ha : PA X (e :: es) t)
    (hst : starEach (e :: es) X.env = (false, eval e X.env) :: starEach es X.env := by rfl) (hpl : (backTo pos (starEach es X.env)).any (·.1) = false := by rfl)
    (ht : eval (.Call (.Attribute o m apos) (e :: es) [] pos) X.env = (do
      let ov ← eval o X.env
      standAt apos.atName
      let (f, first) ← holding [ov] (getMethod ov m pl)
      callWith pos f first (backTo pos (starEach (e :: es) X.env)) (backToKw pos (keywordEach [] X.env))) := by rfl) :
    PE X (.Call (.Attribute o m apos) (e :: es) [] pos) (tMethS c m sp (WE W) ta t) := by
  obtain ⟨f, fd, F, hm, b⟩ := cm.ex
  refine ⟨fun pins s σ H Q I h => ?_⟩
  refine PySem.W.methodCall_KW (pl := pl) (thn (he.run pins s σ H _ I h) fun u s1 ⟨x, H1, I1, rx, a, dx, fs, ex, ea, l, q⟩ => ?_) ht
  subst ex
  obtain rfl : u = Value.ref a := rx
  refine getmeth_ok I1 ea cl hm l ?_
  refine PySem.W.callWith_K (first := [.ref a]) (h₀ := X.base) I.ok.mod.kin hm.kp (thn (ha.run pos pins s1 σ H1 _ I1 q) fun us s2 ⟨vs, H2, I2, r, q2⟩ => ⟨I2.kIn, ?_⟩) hst hpl
  exact run_fnS (us := .ref a :: us) (vs := .ref a :: vs) F (hr.mono hk) b (passAt tk σ) I2 (.cons rfl r) q2
theorem pe_cmS0 (cm : Cm X.prog X.w X.K X.mg X.base (L2.CX X.prog X.w) k c m ps sp) (cl : Cls X.K c) (hr : Room j X.A) (hk : k ≤ j) (tk : Takes X W) (he : PE X o ta)
    (ht : eval (.Call (.Attribute o m apos) [] [] pos) X.env = (do
      let ov ← eval o X.env
      standAt apos.atName
      let (f, first) ← holding [ov] (getMethod ov m pl)
      callWith pos f first (backTo pos (starEach [] X.env)) (backToKw pos (keywordEach [] X.env))) := by rfl) :
    PE X (.Call (.Attribute o m apos) [] [] pos) (tMethS c m sp (WE W) ta tNil) := by
  obtain ⟨f, fd, F, hm, b⟩ := cm.ex
  refine ⟨fun pins s σ H Q I h => ?_⟩
  refine PySem.W.methodCall_KW (pl := pl) (thn (he.run pins s σ H _ I h) fun u s1 ⟨x, H1, I1, rx, a, dx, fs, ex, ea, l, q⟩ => ?_) ht
  subst ex
  obtain rfl : u = Value.ref a := rx
  refine getmeth_ok I1 ea cl hm l ?_
  exact PySem.W.callWith_K0 (first := [.ref a]) I1.kIn hm.kp (run_fnS (us := [.ref a]) (vs := [.ref a]) F (hr.mono hk) b (passAt tk σ) I1 (.cons rfl .nil) q)
theorem pe_ck (cm : Ck X.prog X.w X.K X.mg X.base CX0 k x c ps sp) (hr : Room j X.A) (hk : k + 1 ≤ j) (hg : Gl X x) (ha : PA X (e :: es) t)
    (hdb : (x == ("__debug__" : Str)) = false := by decide) (he : starEach (e :: es) X.env = (false, eval e X.env) :: starEach es X.env := by rfl) (hpl : (backTo pos (starEach es X.env)).any (·.1) = false := by rfl) :
    PE X (.Call (.Name x p) (e :: es) [] pos) (tMake c sp [] E0 t) := by
  obtain ⟨f, fd, F, M, hm, b⟩ := cm.ex
  exact pe_make M F (hr.mono hk) hg hm b .nil pass0 ha hdb he hpl
end
section
variable {P : Program} {w : World} {C : Ct} {mg : Str → Option Value} {base : Heap} {x qual : Str} {f : Addr} {fd : FuncData} {st : Stmt} {N ps : List Str} {k m : Nat} {R : Tab} {i : Nat} {body : DSt C}
theorem fn_F (F : Fd C.K x qual st f fd) (S : FnScope N ps (defScope st)) (hN : N.length = ps.length + m) (hR : ∀ as st, R i as st = callD ps.length m body as st)
    (hbody : ∀ (cdv : Value) (A : Around) (outer : List Env) (s : Shared) (H : Hp) (E : XK), Room k (A.deeper (envOfC qual (defScope st) s.heap.objs.size f cdv)) → ∀ ax : Ax,
      PSs (cxOf CX0 P w C.K mg base N qual (defScope st) f cdv A outer s H E).nox (defBody st) (body.ts ⟨fun _ _ _ _ => False, ax⟩)) : FnOk P w C.K mg base CX0 (k + 1) f fd ps (spF C R i) := by
  refine ok0 F S ?_ fun cdv A outer s H vs Q E hr hs => ?_
  · rintro vs H Q E ⟨s, q, N1, as, st1, r, st', I, p, h, k⟩
    rw [hR] at h
    rw [paired_len p]
    exact (callD_inv h).1
  · obtain ⟨s1, q, N1, as, st1, r, st', I, p, h, k⟩ := hs
    rw [hR] at h
    obtain ⟨hl, fl, ρ', hb, hc⟩ := callD_inv h
    refine ⟨_, hbody cdv A outer s H E hr q.ax, ?_⟩
    refine body.ok (N0 := N1) (H0 := H) ⟨ev_start p (by rw [hN, paired_len p, hl]), I, .refl, fun _ => trivial, I.hq⟩ hb (fun _ _ _ _ => False) _ ?_
    rcases hc with ⟨y, rfl, e⟩ | ⟨rfl, e⟩ | ⟨y, rfl, e⟩
    · cases e
      exact fun v N' H' x i r => k v N' H' x i r
    · cases e
      exact fun σ' N' H' v _ => k _ N' H' v.X v.I .non
    · cases e
theorem fn_X (F : Fd C.K x qual st f fd) (S : FnScope N ps (defScope st)) (hN : N.length = ps.length + m) (hR : ∀ as st, R i as st = callD ps.length m body as st)
    (hbody : ∀ (cdv : Value) (A : Around) (outer : List Env) (s : Shared) (H : Hp) (E : XK), Room k (A.deeper (envOfC qual (defScope st) s.heap.objs.size f cdv)) → ∀ ax : Ax,
      PSs (cxOf (L2.CX P w) P w C.K mg base N qual (defScope st) f cdv A outer s H E) (defBody st) (body.ts ⟨fun cls d _ H => E cls d H, ax⟩)) : FnOk P w C.K mg base (L2.CX P w) (k + 1) f fd ps (spX C R i) := by
  refine okX F S ?_ fun cdv A outer s H vs Q E hr hs => ?_
  · rintro vs H Q E ⟨s, q, N1, as, st1, r, st', I, p, h, k⟩
    rw [hR] at h
    rw [paired_len p]
    exact (callD_inv h).1
  · obtain ⟨s1, q, N1, as, st1, r, st', I, p, h, k⟩ := hs
    rw [hR] at h
    obtain ⟨hl, fl, ρ', hb, hc⟩ := callD_inv h
    refine ⟨_, hbody cdv A outer s H E hr q.ax, ?_⟩
    refine body.ok (N0 := N1) (H0 := H) ⟨ev_start p (by rw [hN, paired_len p, hl]), I, .refl, fun _ => trivial, I.hq⟩ hb (fun cls d _ H => E cls d H) _ ?_
    rcases hc with ⟨y, rfl, rfl⟩ | ⟨rfl, rfl⟩ | ⟨y, rfl, rfl⟩
    · exact fun v N' H' x i r => k N' H' x i v r
    · exact fun σ' N' H' v _ => k N' H' v.X v.I _ .non
    · exact fun d σ' N' H' v _ z => k d N' H' v.X v.I z
/-- nothing is promised yet -/
theorem fn_none {CX : CXT} (F : Fd C.K x qual st f fd) : FnOk P w C.K mg base CX k f fd ps (spF C (fun _ _ _ => none) i) :=
  ⟨fun vs H Q E ⟨_, _, _, _, _, _, _, _, _, h, _⟩ => (by cases h), fun _ _ _ _ _ _ _ _ _ _ _ _ _ ⟨_, _, _, _, _, _, _, _, _, h, _⟩ => (by cases h)⟩
theorem fn_noneX {CX : CXT} (F : Fd C.K x qual st f fd) : FnOk P w C.K mg base CX k f fd ps (spX C (fun _ _ _ => none) i) :=
  ⟨fun vs H Q E ⟨_, _, _, _, _, _, _, _, _, h, _⟩ => (by cases h), fun _ _ _ _ _ _ _ _ _ _ _ _ _ ⟨_, _, _, _, _, _, _, _, _, h, _⟩ => (by cases h)⟩
end
/-! ### how they read -/
section
variable {C : Ct} {W : Wc} {O : ObOk C} {i j m : Nat} {f : Str} {hf : FAt C i f} {ρ : Rho} {st : Ds}
theorem te_dFld [Ni C] : (dFld O j i f hf).te W = tFld C.K (tVar j) f := rfl
theorem ts_sFldSet [Ni C] {a : DE C .fz} : (sFldSet O j i f hf a).ts W = sFld C.K (tVar j) (a.te W) f := rfl
theorem ts_sFldAdd [Ni C] {a : DE C .fz} : (sFldAdd O j i f hf a).ts W = sFldAug C.K (tVar j) (a.te W) rAdd f := rfl
theorem te_dMeth [Ni C] {R : Tab} {n : Nat} {hm : f ∉ C.on} {t : DA C} : (dMeth R n j f hm t).te W = tMeth C.oc f (spF C R n) [] E0 (tVar j) (t.ta W) := rfl
theorem te_dMethX [Ni C] {R : Tab} {n : Nat} {hm : f ∉ C.on} {t : DA C} : (dMethX R n j f hm t).te W = tMethS C.oc f (spX C R n) (WE W.W) (tVar j) (t.ta W) := rfl
theorem te_dWLen [Ni C] : (dWLen O j i f hf).te W = tCB (bLen C).r (tCons (tFld C.K (tVar j) f) tNil) := rfl
theorem te_dWName [Ni C] : (dWName O j i f hf).te W = tOp (rIxT C.K) (tOp (rIxL C.K) (tFld C.K (tVar j) f) (tUn (rU fun i => .int (-i)) (tC (.int 1)))) (tC (.int 0)) := rfl
theorem ts_sWApp [Ni C] : (sWApp O j i f hf m).ts W = tDrop (tBM C.K "list" rAppend (tOp (rIxT C.K) (tOp (rIxL C.K) (tFld C.K (tVar j) f) (tUn (rU fun i => .int (-i)) (tC (.int 1)))) (tC (.int 1))) (tCons (tVar m) tNil)) := rfl
theorem ts_sWPop [Ni C] {a b : Nat} : (sWPop O j i f hf a b).ts W = tAsg (tBM0 C.K "list" rPop (tFld C.K (tVar j) f)) (gTup C.K 2 (gCons (gName a) (gCons (gName b) gNil))) := rfl
theorem ts_sWPush [Ni C] {hmd : C.md = true} {a : DE C .fz} : (sWPush hmd O j i f hf a).ts W = tDrop (tBM C.K "list" rAppend (tFld C.K (tVar j) f) (tCons (tTup (tCons (a.te W) (tCons (tLst tNil) tNil))) tNil)) := rfl
theorem ts_sWNew [Ni C] {hmd : C.md = true} : (sWNew hmd O j i f hf).ts W = sFld C.K (tVar j) (tLst tNil) f := rfl
theorem ts_sOb {oc : Addr} {on : List Str} {wi n : Nat} {R : Tab} {t : DA C} {rest : DSt (mC C oc on)} : (sOb oc on wi R n j t rest).ts W = tSeq (tAsg (tMake oc (spF (mC C oc on) R n) [] E0 (t.ta W)) (gName j)) (rest.ts W) := rfl
/-! ### how they are worked out -/
theorem ev_dFld [Ni C] {x : PyData} (h : ρ[j]? = some .ob) (h2 : st.fs[i]? = some (.d x)) : (dFld O j i f hf).ev ρ st = some (.ok x, st) := by
  show (match ρ[j]?, st.fs[i]? with | some .ob, some (.d x) => some (Except.ok x, st) | _, _ => none) = _
  rw [h, h2]
  try rfl
theorem es_sFldSet [Ni C] {a : DE C .fz} (h : ρ[j]? = some .ob) : (sFldSet O j i f hf a).ev ρ st = bindS (a.ev ρ st) ρ fun x st1 => if i ≤ st1.fs.length then some (.nx, ρ, { st1 with fs := putL st1.fs i (.d x) }) else none := by
  show (match ρ[j]? with | some .ob => _ | _ => none) = _
  rw [h]
  try rfl
theorem es_sFldAdd [Ni C] {a : DE C .fz} {n : Int} (h : ρ[j]? = some .ob) (h2 : st.fs[i]? = some (.d (.int n))) : (sFldAdd O j i f hf a).ev ρ st = bindS (a.ev ρ st) ρ fun x st1 => match x with
    | .int m => if i ≤ st1.fs.length then some (.nx, ρ, { st1 with fs := putL st1.fs i (.d (.int (n + m))) }) else none
    | _ => none := by
  show (match ρ[j]?, st.fs[i]? with | some .ob, some (.d (.int n)) => _ | _, _ => none) = _
  rw [h, h2]
  try rfl
theorem ev_dMeth [Ni C] {R : Tab} {n : Nat} {hm : f ∉ C.on} {t : DA C} (h : ρ[j]? = some .ob) : (dMeth R n j f hm t).ev ρ st = bindR (t.ev ρ st) fun as st1 => match R n (.ob :: as) st1 with
    | some (.ok x, st2) => some (.ok x, st2)
    | _ => none := by
  show (match ρ[j]? with | some .ob => _ | _ => none) = _
  rw [h]
  try rfl
theorem ev_dMethX [Ni C] {R : Tab} {n : Nat} {hm : f ∉ C.on} {t : DA C} (h : ρ[j]? = some .ob) : (dMethX R n j f hm t).ev ρ st = bindR (t.ev ρ st) fun as st1 => R n (.ob :: as) st1 := by
  show (match ρ[j]? with | some .ob => _ | _ => none) = _
  rw [h]
  try rfl
theorem ev_dWLen [Ni C] {ps : List (PyData × List PyData)} (h : ρ[j]? = some .ob) (h2 : st.fs[i]? = some (.w ps)) : (dWLen O j i f hf).ev ρ st = some (.ok (.int ps.length), st) := by
  show (match ρ[j]?, st.fs[i]? with | some .ob, some (.w ps) => _ | _, _ => none) = _
  rw [h, h2]
  try rfl
theorem ev_dWName [Ni C] {ps : List (PyData × List PyData)} {p : PyData × List PyData} (h : ρ[j]? = some .ob) (h2 : st.fs[i]? = some (.w ps)) (h3 : ps[ps.length - 1]? = some p) : (dWName O j i f hf).ev ρ st = some (.ok p.1, st) := by
  show (match ρ[j]?, st.fs[i]? with | some .ob, some (.w ps) => _ | _, _ => none) = _
  rw [h, h2]
  show (match ps[ps.length - 1]? with | some p => _ | none => none) = _
  rw [h3]
  try rfl
theorem es_sWApp [Ni C] {ps : List (PyData × List PyData)} {p : PyData × List PyData} {x : PyData} (h : ρ[j]? = some .ob) (h2 : st.fs[i]? = some (.w ps)) (h4 : ρ[m]? = some (.d x)) (h3 : ps[ps.length - 1]? = some p) :
    (sWApp O j i f hf m).ev ρ st = if onlyW st.fs i = true ∧ p.2.length < 100000 then some (.nx, ρ, { st with fs := putL st.fs i (.w (ps.set (ps.length - 1) (p.1, p.2 ++ [x]))) }) else none := by
  show (match ρ[j]?, st.fs[i]?, ρ[m]? with | some .ob, some (.w ps), some (.d x) => _ | _, _, _ => none) = _
  rw [h, h2, h4]
  show (match ps[ps.length - 1]? with | some p => _ | none => none) = _
  rw [h3]
  try rfl
theorem es_sWPop [Ni C] {a b : Nat} {ps : List (PyData × List PyData)} {p : PyData × List PyData} (h : ρ[j]? = some .ob) (h2 : st.fs[i]? = some (.w ps)) (h3 : ps[ps.length - 1]? = some p) :
    (sWPop O j i f hf a b).ev ρ st = if onlyW st.fs i = true then some (.nx, (ρ.set a (.d p.1)).set b (.d (.list p.2)), { st with fs := putL st.fs i (.w ps.dropLast) }) else none := by
  show (match ρ[j]?, st.fs[i]? with | some .ob, some (.w ps) => _ | _, _ => none) = _
  rw [h, h2]
  show (match ps[ps.length - 1]? with | some p => _ | none => none) = _
  rw [h3]
  try rfl
theorem es_sWPush [Ni C] {hmd : C.md = true} {a : DE C .fz} {ps0 : List (PyData × List PyData)} (h : ρ[j]? = some .ob) (h2 : st.fs[i]? = some (.w ps0)) : (sWPush hmd O j i f hf a).ev ρ st = bindS (a.ev ρ st) ρ fun x st1 => match st1.fs[i]? with
    | some (.w ps) => if st.pin = true ∧ st1.pin = true ∧ onlyW st1.fs i = true ∧ ps.length < 100000 then some (.nx, ρ, { st1 with fs := putL st1.fs i (.w (ps ++ [(x, [])])) }) else none
    | _ => none := by
  show (match ρ[j]?, st.fs[i]? with | some .ob, some (.w _) => _ | _, _ => none) = _
  rw [h, h2]
  try rfl
theorem es_sWNew [Ni C] {hmd : C.md = true} (h : ρ[j]? = some .ob) : (sWNew hmd O j i f hf).ev ρ st = if i ≤ st.fs.length ∧ st.pin = false then some (.nx, ρ, { st with fs := putL st.fs i (.w []) }) else none := by
  show (match ρ[j]? with | some .ob => _ | _ => none) = _
  rw [h]
  try rfl
theorem es_sOb {oc : Addr} {on : List Str} {wi n : Nat} {R : Tab} {t : DA C} {rest : DSt (mC C oc on)} : (sOb oc on wi R n j t rest).ev ρ st = bindS (t.ev ρ st) ρ fun as st1 => if allD as = true then match R n (.ob :: as) ⟨st1.scr, st1.st, [], false, []⟩ with
    | some (.ok .none, st2) => match st2.fs[wi]? with
      | some (.w _) => if onlyW st2.fs wi = true ∧ st2.pin = false then match rest.ev ((ρ.map kd).set j .ob) { st2 with pin := true } with
        | some (.nx, ρ', _) => some (.nx, ρ'.map fun _ => .no, st1)
        | some (.rt x, ρ', _) => some (.rt x, ρ'.map fun _ => .no, st1)
        | some (.xc e, ρ', _) => some (.xc e, ρ'.map fun _ => .no, st1)
        | _ => none else none
      | _ => none
    | _ => none else none := rfl
end
end De

/-! A list of texts that stands at the state's place: it may be handed to other defs. -/
namespace De
open PySem L2 Dx
abbrev lC (C : Ct) : Ct := { C with fam := false, lm := false }
section
variable {C : Ct} {k : Kd} {s : Sx} {q : Sq} {N0 N N1 N' : Addr → Prop} {H0 H H1 H' : Hp} {σ : L2.St} {ρ ρ' : Rho} {st st' st1 : Ds} {W : WX} {D : Ends} {fl : Fl} {K : PySem.W.Frag}
theorem stV_tl (hf : C.fam = false) (h : st.st = []) : stV C q st = st.ss.map V.str := by
  unfold stV
  rw [hf, h]
  rfl
/-- the list is changed -/
theorem Sv.tl (v : Sv C s q N0 H0 N H σ ρ st) (hf : C.fam = false) (hob : q.ob = none) (h : st.st = []) {zs : List Str} : Sv C s q N0 H0 N (upd H s.a (.lst (zs.map V.str))) σ ρ { st with ss := zs } ∧ Xt s N H N (upd H s.a (.lst (zs.map V.str))) := by
  have I2 : Iv C s q N (upd H s.a (.lst (zs.map V.str))) { st with ss := zs } := v.I.atS (by
    unfold StO
    rw [hob]
    show upd _ _ _ _ = _
    rw [upd_same, stV_tl (st := { st with ss := zs }) hf h]) rfl rfl
  exact ⟨v.xt (Xt.atS v.I) I2, Xt.atS v.I⟩
/-- x != [] -/
def dTlNe [Nw C] (hf : C.fam = false) (i : Nat) : DE C .fz := ⟨fun _ => tOp (rNeD C.K) (tVar i) (tLst tNil), fun ρ st => match ρ[i]? with
  | some .st => if st.st = [] ∧ SeqAt.shaped (.list (st.ss.map .str)) = true then some (.ok (.bool (!PyData.eqv (.list (st.ss.map .str)) (.list []))), st) else none
  | _ => none, fun {s q H0 N σ H ρ st st' r} E I h W Q k => by
  split at h
  · rename_i hi
    split at h
    · rename_i hc
      cases h
      obtain ⟨o, ho, rfl, hob⟩ := E.get hi
      refine ⟨_, ho, sz_of (show 0 ≤ 100000 by omega), fun p hp => ?_⟩
      have I1 := I.new (o := .lst []) hp
      refine ⟨_, _, ?_, .lst (SqL.of upd_same) .nil, hc.2, rfl, k _ _ (Xt.new hp) I1 _ (.bl _)⟩
      have e := I1.lst hob
      rw [stV_tl hf hc.1] at e
      have c2 := SeqAt.canLay_of_shaped hc.2
      exact .lst (SqL.of e) ((rps_strs (K := C.K) (N := N) (H := upd H p (.lst [])) st.ss).dp (by simpa only [PyData.canLay0] using c2))
    · cases h
  · cases h⟩
/-- x.pop() -/
def dTlPop (hf : C.fam = false) (i : Nat) : DE C .fz := ⟨fun _ => tBM0 C.K "list" rPop (tVar i), fun ρ st => match ρ[i]? with
  | some .st => match st.st, st.ss[st.ss.length - 1]? with
    | [], some z => some (.ok (.str z), { st with ss := st.ss.dropLast })
    | _, _ => none
  | _ => none, fun {s q H0 N σ H ρ st st' r} E I h W Q k => by
  split at h
  · rename_i hi
    split at h
    · rename_i z hst hz
      cases h
      obtain ⟨o, ho, rfl, hob⟩ := E.get hi
      have e := I.lst hob
      rw [stV_tl hf hst] at e
      have I2 : Iv C s q N (upd H s.a (.lst (st.ss.dropLast.map V.str))) { st with ss := st.ss.dropLast } := I.atS (by
        unfold StO
        rw [hob]
        show upd _ _ _ _ = _
        rw [upd_same, stV_tl (st := { st with ss := st.ss.dropLast }) hf hst]) rfl rfl
      refine ⟨_, ho, tyV_lst e, s.a, _, .str z, rfl, rfl, e, by rw [List.length_map, List.getElem?_map, hz]; rfl, ?_⟩
      rw [← List.map_dropLast]
      exact k _ _ (Xt.atS I) I2 _ (.str _)
    · cases h
  · cases h⟩
/-- x.append(a) -/
def sTlApp (hf : C.fam = false) (i : Nat) (a : DE C .fz) : DSt C := ⟨fun W => tDrop (tBM C.K "list" rAppend (tVar i) (tCons (a.te W) tNil)), fun ρ st => match ρ[i]? with
  | some .st => match st.st with
    | [] => bindS (a.ev ρ st) ρ fun x st1 => match x with
      | .str z => if st1.st = [] ∧ st1.ss.length < 100000 then some (.nx, ρ, { st1 with ss := st1.ss ++ [z] }) else none
      | _ => none
    | _ => none
  | _ => none, fun {s q N0 H0 N H σ ρ ρ' st st' fl} v h W D k => by
  split at h
  · rename_i hi
    split at h
    · rename_i hst
      obtain ⟨o, ho, rfl, hob⟩ := v.E.get hi
      have e := v.I.lst hob
      refine ⟨_, ho, tyV_lst e, ?_⟩
      rcases bindS_inv h with ⟨e, h1, rfl, rfl⟩ | ⟨x, st1, h1, h2⟩
      · exact a.ok v.E v.I h1 W _ (SOut.out v k)
      · refine a.ok v.E v.I h1 W _ fun N1 H1 e1 I1 u r1 => ?_
        split at h2
        · rename_i z
          split at h2
          · rename_i hc
            cases h2
            cases Rp.str_eq r1
            have e' := I1.lst hob
            rw [stV_tl hf hc.1] at e'
            have v1 := v.xt e1 I1
            obtain ⟨v2, X2⟩ := v1.tl hf hob hc.1 (zs := st1.ss ++ [z])
            refine ⟨s.a, _, .str z, rfl, rfl, e', by rw [List.length_map]; exact sz_lt hc.2, ?_⟩
            have em : st1.ss.map V.str ++ [.str z] = (st1.ss ++ [z]).map V.str := by rw [List.map_append]; rfl
            rw [em]
            exact k _ _ _ v2 ((e1.trans X2).fx v.I)
          · cases h2
        · cases h2
    · cases h
  · cases h⟩
/-- x = [], and what follows -/
def sTl [Nw C] (j : Nat) (rest : DSt (lC C)) : DSt C := ⟨fun W => tSeq (tAsg (tLst tNil) (gName j)) (rest.ts W), fun ρ st =>
  match rest.ev ((ρ.map kd).set j .st) ⟨st.scr, [], [], false, []⟩ with
    | some (.nx, ρ', _) => some (.nx, ρ'.map fun _ => .no, st)
    | some (.rt x, ρ', _) => some (.rt x, ρ'.map fun _ => .no, st)
    | some (.xc e, ρ', _) => some (.xc e, ρ'.map fun _ => .no, st)
    | _ => none, fun {s q N0 H0 N H σ ρ ρ' st st' fl} v h W D k => by
  refine ⟨sz_of (show 0 ≤ 100000 by omega), fun l hl => ?_⟩
  let s2 : Sx := ⟨l, fun _ => False⟩
  let q2 : Sq := { q with ob := none, wl := none }
  let CM : Ct := lC C
  let H2 : Hp := upd H l (.lst [])
  have S2 : ∀ a o, H a = some o → H2 a = some o := same_new hl
  have F2 : ∀ a, H2 a = none → H a = none := fun a h => upd_none h
  have I4 : Iv CM s2 q2 N H2 ⟨st.scr, [], [], false, []⟩ := by
    refine ⟨fun a n z => v.I.na a n (F2 a z), fun n => v.I.na _ n hl, ?_, ?_, v.I.sc, fun _ _ z => z, fun z => z, fun m => (by have z : C.md = true := m; rw [Nw.h (C := C)] at z; cases z), rfl, fun p hp => (v.I.tb p hp).ext S2⟩
    · show upd _ _ _ _ = _
      exact upd_same
    · rcases v.I.hq with ⟨h | ⟨o, h⟩, n⟩ | h
      · exact .inl ⟨.inl (S2 _ _ h), ne_of_none h hl, fun z => z⟩
      · exact .inl ⟨.inr ⟨o, S2 _ _ h⟩, ne_of_none h hl, fun z => z⟩
      · exact .inr h
  have XS : Xt s N H N H2 := Xt.same S2
  have E4 : Ev CM s2 q2 H2 N H2 σ (ρ.map kd) := by
    refine ⟨by rw [List.length_map]; exact v.E.len, fun i e o g1 g2 => ?_, fun i j e f o u a _ g1 _ _ _ w _ => ?_⟩
    · rw [List.getElem?_map] at g1
      cases he : ρ[i]? with
      | none => rw [he] at g1; cases g1
      | some e0 =>
        rw [he] at g1
        cases g1
        have z := v.E.at_ i e0 o he g2
        cases e0 with
        | d y =>
          obtain ⟨u, g3, g4⟩ := z
          exact ⟨u, g3, v.I.rp XS g4⟩
        | _ => exact trivial
    · rw [List.getElem?_map] at g1
      cases he : ρ[i]? with
      | none => rw [he] at g1; cases g1
      | some e0 =>
        rw [he] at g1
        cases g1
        cases e0 <;> exact w
  have v4 : Sv CM s2 q2 N H2 N H2 (σ.set j (some (.ref l))) ((ρ.map kd).set j .st) ⟨st.scr, [], [], false, []⟩ :=
    ⟨E4.set (show EnR CM s2 q2 H2 N H2 .st (some (.ref l)) from ⟨rfl, rfl⟩) fun _ z => z.elim, I4, .refl, fun _ => trivial, I4.hq⟩
  have back : ∀ N' H' st3, Xt s2 N H2 N' H' → Iv CM s2 q2 N' H' st3 → Xt s N H N' H' ∧ Iv C s q N' H' st := fun N' H' st3 X5 I5 => by
    refine ob_back v.I (fun a o h t => X5.kp a o ⟨ne_of_none h hl, fun z => z⟩ (S2 a o h) t) (fun a h => X5.ks a fun z => h (F2 a z)) I5.na X5.nn (fun a h => ?_) I5.tb
    rcases X5.nw a h with h | h | h
    · exact .inl h
    · exact .inr (F2 a h)
    · exact h.elim
  have no : ∀ {N' H' σ' ρ1}, Ev CM s2 q2 H2 N' H' σ' ρ1 → Ev C s q H0 N' H' σ' (ρ1.map fun _ => En.no) := fun {N' H' σ' ρ1} E => by
    refine ⟨by rw [List.length_map]; exact E.len, fun i e o g1 g2 => ?_, fun i j e f o u a _ g1 _ _ _ w _ => ?_⟩
    · rw [List.getElem?_map] at g1
      cases he : ρ1[i]? with
      | none => rw [he] at g1; cases g1
      | some e0 => rw [he] at g1; cases g1; exact trivial
    · rw [List.getElem?_map] at g1
      cases he : ρ1[i]? with
      | none => rw [he] at g1; cases g1
      | some e0 => rw [he] at g1; cases g1; exact w
  cases hr : rest.ev ((ρ.map kd).set j .st) ⟨st.scr, [], [], false, []⟩ with
  | none => rw [hr] at h; cases h
  | some z =>
    obtain ⟨f5, ρ5, st5⟩ := z
    rw [hr] at h
    refine rest.ok v4 hr W D ?_
    cases f5 with
    | nx =>
      cases h
      intro σ' N' H' v5 f5
      obtain ⟨X6, I6⟩ := back N' H' _ v5.X v5.I
      exact k σ' N' H' ⟨no v5.E, I6, v.X.trans X6, fun _ => trivial, v.hq⟩ (X6.fx v.I)
    | rt y =>
      cases h
      intro u N' H' X5 I5 r5
      obtain ⟨X6, I6⟩ := back N' H' _ X5 I5
      exact k u N' H' (v.X.trans X6) I6 r5
    | xc e =>
      cases h
      intro d σ' N' H' v5 f5 r5
      obtain ⟨X6, I6⟩ := back N' H' _ v5.X v5.I
      exact k d σ' N' H' ⟨no v5.E, I6, v.X.trans X6, fun _ => trivial, v.hq⟩ (X6.fx v.I) r5
    | bk => cases h
    | ct => cases h⟩
end
section
variable {C : Ct} {W : Wc} {i j : Nat} {hf : C.fam = false} {ρ : Rho} {st : Ds}
theorem te_dTlNe [Nw C] : (dTlNe hf i).te W = tOp (rNeD C.K) (tVar i) (tLst tNil) := rfl
theorem te_dTlPop : (dTlPop hf i).te W = tBM0 C.K "list" rPop (tVar i) := rfl
theorem ts_sTlApp {a : DE C .fz} : (sTlApp hf i a).ts W = tDrop (tBM C.K "list" rAppend (tVar i) (tCons (a.te W) tNil)) := rfl
theorem ts_sTl [Nw C] {rest : DSt (lC C)} : (sTl j rest).ts W = tSeq (tAsg (tLst tNil) (gName j)) (rest.ts W) := rfl
theorem ev_dTlNe [Nw C] (h : ρ[i]? = some .st) (h2 : st.st = []) (h3 : SeqAt.shaped (.list (st.ss.map .str)) = true) : (dTlNe hf i).ev ρ st = some (.ok (.bool (!PyData.eqv (.list (st.ss.map .str)) (.list []))), st) := by
  show (match ρ[i]? with | some .st => _ | _ => none) = _
  rw [h]
  exact if_pos ⟨h2, h3⟩
theorem ev_dTlPop {z : Str} (h : ρ[i]? = some .st) (h2 : st.st = []) (h3 : st.ss[st.ss.length - 1]? = some z) : (dTlPop hf i).ev ρ st = some (.ok (.str z), { st with ss := st.ss.dropLast }) := by
  show (match ρ[i]? with | some .st => _ | _ => none) = _
  rw [h]
  show (match st.st, st.ss[st.ss.length - 1]? with | [], some z => _ | _, _ => none) = _
  rw [h3]
  split
  · rename_i z1 h4 h5
    cases h5
    rfl
  · rename_i h4
    exact absurd rfl (h4 z h2)
theorem es_sTlApp {a : DE C .fz} (h : ρ[i]? = some .st) (h2 : st.st = []) : (sTlApp hf i a).ev ρ st = bindS (a.ev ρ st) ρ fun x st1 => match x with
      | .str z => if st1.st = [] ∧ st1.ss.length < 100000 then some (.nx, ρ, { st1 with ss := st1.ss ++ [z] }) else none
      | _ => none := by
  show (match ρ[i]? with | some .st => _ | _ => none) = _
  rw [h]
  show (match st.st with | [] => _ | _ => none) = _
  rw [h2]
theorem es_sTl [Nw C] {rest : DSt (lC C)} : (sTl j rest).ev ρ st = match rest.ev ((ρ.map kd).set j .st) ⟨st.scr, [], [], false, []⟩ with
    | some (.nx, ρ', _) => some (.nx, ρ'.map fun _ => .no, st)
    | some (.rt x, ρ', _) => some (.rt x, ρ'.map fun _ => .no, st)
    | some (.xc e, ρ', _) => some (.xc e, ρ'.map fun _ => .no, st)
    | _ => none := rfl
end
end De

/-! Closures as values: made, handed over, called. -/
namespace De
open PySem PySem.Spec PyProof.Rows L2 Dx Dg Fv LamX
section
variable {C : Ct} {k : Kd} {s : Sx} {q : Sq} {N0 N N1 N' : Addr → Prop} {H0 H H1 H' : Hp} {σ : L2.St} {ρ ρ' : Rho} {st st' st1 : Ds} {W : WX} {D : Ends} {fl : Fl} {K : PySem.W.Frag} {j : Nat} {cd : List PyData} {as : List En}
/-! ### all but tables stays -/
theorem ntb_ne {o : HO} (h : ntb o = true) (ps : Array Value) : o ≠ .tbl ps := by
  rintro rfl
  cases h
theorem Xt.extN (e : ExtN H H1) (g : ∀ b, H1 b = none → H b = none) : Xt s N H N H1 :=
  ⟨fun a o _ h t => e a o h (ntb_ne t), fun a o _ _ h t => e a o h (ntb_ne t), fun a h z => h (g a z), fun _ h => h, fun _ h => .inl h⟩
theorem Iv.extN (I : Iv C s q N H st) (e : ExtN H H1) (g : ∀ b, H1 b = none → H b = none) (t : NdefX.TabsN C.T H1) : Iv C s q N H1 st := by
  have X : Xt s N H N H1 := Xt.extN e g
  exact ⟨fun a n z => I.na a n (g a z), I.ns, I.hs.mono (fun o h t => e _ o h (ntb_ne t)) (fun a o t h => e a o h (ntb_ne (ntb_od t))) (fun a o _ h t => e a o h (ntb_ne t)) (fun _ _ _ h => h) (fun _ _ h => I.rp X h) (fun _ _ h => I.rps X h),
    I.hq.keep fun a o _ h t => e a o h (ntb_ne t), I.sc, I.nS, I.sS, fun m a h => I.fS m a (g a h), I.pn, t⟩
/-! ### arguments -/
/-- the captured cells of a closure that is made here -/
abbrev clo (C : Ct) (cells : List (Str × Addr)) (j : Nat) : List (Str × Addr) := cloFrom cells (C.nm j) []
/-- a lambda -/
def aLam (j : Nat) (t : DA C) : DA C := ⟨fun W => tCons (tLamE C.T fun c => C.wf j (clo C W.ax.cl j) c) (t.ta W), fun ρ st => bindR (t.ev ρ st) fun as st2 => some (.ok (.fn j none :: as), st2), fun {s q H0 N σ H ρ st st' r} E I h W Q k => by
  refine ⟨I.tb, fun f c H1 e g t1 hf h1 h2 => ?_⟩
  have X : Xt s N H N H1 := Xt.extN e g
  have I1 := I.extN e g t1
  have fa : FwAt C H1 f j (clo C q.ax.cl j) c := ⟨h1, h2⟩
  rcases bindR_inv h with ⟨e, h3, rfl⟩ | ⟨as, st2, h3, h4⟩
  · exact t.ok (E.xt I X) I1 h3 W _ (k.step X).err
  · refine t.ok (E.xt I X) I1 h3 W _ fun N2 H2 e2 I2 vs r2 => ?_
    cases h4
    exact k _ _ (X.trans e2) I2 _ (.cons ⟨f, c, rfl, fa.xt I1 e2⟩ r2)⟩
/-- a slot with a closure -/
def aFn (i : Nat) (t : DA C) : DA C := ⟨fun W => tCons (tVar i) (t.ta W), fun ρ st => match ρ[i]? with
  | some (.fn j cd) => bindR (t.ev ρ st) fun as st2 => some (.ok (.fn j cd :: as), st2)
  | _ => none, fun {s q H0 N σ H ρ st st' r} E I h W Q k => by
  split at h
  · rename_i j cd hi
    obtain ⟨o, ho, hr⟩ := E.get hi
    have hv : ∃ f, o = some (V.ref f) := by
      cases cd with
      | none => obtain ⟨f, _, h, _⟩ := hr; exact ⟨f, h⟩
      | some cd => obtain ⟨f, _, h, _⟩ := hr; exact ⟨f, h⟩
    obtain ⟨f, rfl⟩ := hv
    refine ⟨_, ho, ?_⟩
    rcases bindR_inv h with ⟨e, h3, rfl⟩ | ⟨as, st2, h3, h4⟩
    · exact t.ok E I h3 W _ k.err
    · refine t.ok E I h3 W _ fun N2 H2 e2 I2 vs r2 => ?_
      cases h4
      have hr2 : EnR C s q full N2 H2 (.fn j cd) (some (.ref f)) := by
        have z := hr.xt I e2
        cases cd <;> exact z
      exact k _ _ e2 I2 _ (.cons hr2 r2)
  · cases h⟩
/-! ### a call that hands a closure over -/
def capt (ρ : Rho) : List Nat → Option (List PyData)
  | [] => some []
  | i :: r => match ρ[i]? with
    | some (.d x) => (capt ρ r).map (x :: ·)
    | _ => none
theorem capt_ok (E : Ev C s q H0 N H σ ρ) : ∀ {js : List Nat} {cd : List PyData}, capt ρ js = some cd → ∃ vs, js.map (NdefX.slotAt σ) = vs.map some ∧ RpAll C.K N H vs cd
  | [], _, h => by cases h; exact ⟨[], rfl, .nil⟩
  | i :: r, cd, h => by
    unfold capt at h
    split at h
    · rename_i x hi
      cases hc : capt ρ r with
      | none => rw [hc] at h; cases h
      | some ds =>
        rw [hc] at h
        cases h
        obtain ⟨vs, h1, h2⟩ := capt_ok E hc
        obtain ⟨o, ho, v, rfl, hr⟩ := E.get hi
        exact ⟨v :: vs, by rw [List.map_cons, NdefX.slotAt_of ho, h1]; rfl, .cons hr h2⟩
    · cases h
/-- the arguments as the called def has them -/
def hand (j : Nat) (cd : List PyData) : En → Option En
  | .fn i none => if i = j then some (.fn j (some cd)) else none
  | .d x => some (.d x)
  | .st => some .st
  | .scr => some .scr
  | .vl v => some (.vl v)
  | _ => none
def hands (j : Nat) (cd : List PyData) : List En → Option (List En)
  | [] => some []
  | e :: r => match hand j cd e, hands j cd r with
    | some x, some y => some (x :: y)
    | _, _ => none
/-- the closure's cells, what they hold -/
def Sq.cap (C : Ct) (q : Sq) (j : Nat) (vs : List V) : Sq := { q with ax := { q.ax with cl := clo C q.ax.cl j, fr := C.fu j, cv := vs } }
theorem hand_ok {vs : List V} (r : RpAll C.K N H vs cd) {e e' : En} {o : Option V} (h : hand j cd e = some e') (z : EnR C s q full N H e o) : EnR C s (q.cap C j vs) full N H e' o := by
  unfold hand at h
  split at h
  · split at h
    · rename_i i hi
      cases h
      subst hi
      obtain ⟨f, c, h1, h2⟩ := z
      exact ⟨f, c, h1, h2, rfl, r⟩
    · cases h
  · cases h; exact z
  · cases h; exact z
  · cases h; exact z
  · cases h; exact z
  · cases h
theorem hands_ok {vs : List V} (r : RpAll C.K N H vs cd) : ∀ {as bs : List En} {us : List V}, hands j cd as = some bs → Paired (fun v n => EnR C s q full N H n (some v)) us as → Paired (fun v n => EnR C s (q.cap C j vs) full N H n (some v)) us bs
  | [], _, _, h, .nil => by cases h; exact .nil
  | e :: l, bs, _, h, .cons z zs => by
    unfold hands at h
    split at h
    · rename_i x y h1 h2
      cases h
      exact .cons (hand_ok r h1 z) (hands_ok r h2 zs)
    · cases h
theorem Iv.cap {vs : List V} (I : Iv C s q N H st) : Iv C s (q.cap C j vs) N H st := I.ax
theorem Iv.uncap {vs : List V} (I : Iv C s (q.cap C j vs) N H st) : Iv C s q N H st := I.unax
/-- the promise of a def that is handed a closure -/
def spC (C : Ct) (R : Tab) (f : Nat) : SpC := fun cl fr ws vs H Q _ => ∃ (s : Sx) (q : Sq) (N : Addr → Prop) (as : List En) (st : Ds) (x : PyData) (st' : Ds), q.ax.cl = cl ∧ q.ax.fr = fr ∧ ws = q.ax.cv.map some ∧ Iv C s q N H st ∧ Paired (fun v n => EnR C s q full N H n (some v)) vs as ∧ R f as st = some (.ok x, st') ∧
  ∀ v N' H', Xt s N H N' H' → Iv C s q N' H' st' → Rp C.K N' H' v x → Q v H'
/-- f(..), a closure of the text j made here is handed over -/
def dCallC (R : Tab) (f j : Nat) (js : List Nat) (t : DA C) : DE C .fz := ⟨fun W => tCallC (spC C R f) (clo C W.ax.cl j) (C.fu j) js E0 (t.ta W), fun ρ st => bindR (t.ev ρ st) fun as st1 => match capt ρ js with
  | some cd => match hands j cd as with
    | some bs => match R f bs st1 with
      | some (.ok x, st2) => some (.ok x, st2)
      | _ => none
    | none => none
  | none => none, fun {s q H0 N σ H ρ st st' r} E I h W Q k => by
  rcases bindR_inv h with ⟨e, h1, rfl⟩ | ⟨as, st1, h1, h2⟩
  · exact t.ok E I h1 W _ k.err
  · refine t.ok E I h1 W _ fun N1 H1 e1 I1 vs r1 => ?_
    split at h2
    · rename_i cd hc
      split at h2
      · rename_i bs hb
        split at h2
        · rename_i x st2 hx
          cases h2
          obtain ⟨us, h3, h4⟩ := capt_ok (E.xt I e1) hc
          exact ⟨s, q.cap C j us, N1, bs, st1, x, _, rfl, rfl, h3, I1.cap, hands_ok h4 hb r1, hx, fun v N' H' e2 I2 p => k _ _ (e1.trans e2) I2.uncap v p⟩
        · cases h2
      · cases h2
    · cases h2⟩
/-- f(..), the closure that this def was handed is handed on -/
def dCallP (R : Tab) (f : Nat) (t : DA C) : DE C .fz := ⟨fun W => tCallP (spC C R f) W.ax.cl W.ax.fr (W.ax.cv.map some) E0 (t.ta W), fun ρ st => bindR (t.ev ρ st) fun as st1 => match R f as st1 with
  | some (.ok x, st2) => some (.ok x, st2)
  | _ => none, fun {s q H0 N σ H ρ st st' r} E I h W Q k => by
  rcases bindR_inv h with ⟨e, h1, rfl⟩ | ⟨as, st1, h1, h2⟩
  · exact t.ok E I h1 W _ k.err
  · refine t.ok E I h1 W _ fun N1 H1 e1 I1 vs r1 => ?_
    split at h2
    · rename_i x st2 hx
      cases h2
      exact ⟨s, q, N1, as, st1, x, _, rfl, rfl, rfl, I1, r1, hx, fun v N' H' e2 I2 p => k _ _ (e1.trans e2) I2 v p⟩
    · cases h2⟩
/-! ### a call of a closure -/
/-- what the function value of the text j promises, called where its cells hold ws -/
def spV (C : Ct) (R : Tab) (j : Nat) : List (Option V) → Sp := fun ws vs H Q _ => ∃ (s : Sx) (q : Sq) (N : Addr → Prop) (as : List En) (cv : List V) (cd : List PyData) (st : Ds) (x : PyData) (st' : Ds), ws = cv.map some ∧ cd.length = (C.fu j).length ∧ RpAll C.K N H cv cd ∧ Iv C s q N H st ∧ Paired (fun v n => EnR C s q full N H n (some v)) vs as ∧
  R j (as ++ cd.map .d) st = some (.ok x, st') ∧ ∀ v N' H', Xt s N H N' H' → Iv C s q N' H' st' → Rp C.K N' H' v x → Q v H'
abbrev tCV (C : Ct) (R : Tab) (i : Nat) (W : Wc) (t : TA) : TE := tCallV i (· ∈ C.ji) C.wf C.fu W.ax.cl W.ax.fr (W.ax.cv.map some) (spV C R) E0 t
/-- f(..), f the closure that this def was handed -/
def dCallV (R : Tab) (i : Nat) (t : DA C) : DE C .fz := ⟨fun W => tCV C R i W (t.ta W), fun ρ st => match ρ[i]? with
  | some (.fn j (some cd)) => if j ∈ C.ji ∧ cd.length = (C.fu j).length then bindR (t.ev ρ st) fun as st1 => match R j (as ++ cd.map .d) st1 with
      | some (.ok x, st2) => some (.ok x, st2)
      | _ => none
    else none
  | _ => none, fun {s q H0 N σ H ρ st st' r} E I h W Q k => by
  split at h
  · rename_i j cd hi
    split at h
    · rename_i hjl
      obtain ⟨hj, hl⟩ := hjl
      obtain ⟨o, ho, f, c, rfl, fa, hfr, hcv⟩ := E.get hi
      refine ⟨f, j, c, ho, hj, hfr.symm, fa.o, ?_⟩
      rcases bindR_inv h with ⟨e, h1, rfl⟩ | ⟨as, st1, h1, h2⟩
      · exact t.ok E I h1 W _ k.err
      · refine t.ok E I h1 W _ fun N1 H1 e1 I1 vs r1 => ?_
        split at h2
        · rename_i x st2 hx
          cases h2
          have fa1 := fa.xt I e1
          exact ⟨fa1.o, fa1.k, s, q, N1, as, q.ax.cv, cd, st1, x, _, rfl, hl, I.rps e1 hcv, I1, r1, hx, fun v N' H' e2 I2 p => k _ _ (e1.trans e2) I2 v p⟩
        · cases h2
    · cases h
  · cases h⟩
end
/-! ### the bodies of function values -/
section
variable {P : Program} {w : World} {C : Ct} {mg : Str → Option Value} {base : Heap} {N ps fr : List Str} {k m j : Nat} {R : Tab}
theorem as_d {s : Sx} {q : Sq} {N : Addr → Prop} {H : Hp} : ∀ {cv : List V} {cd : List PyData}, RpAll C.K N H cv cd → Paired (fun v n => EnR C s q full N H n (some v)) cv (cd.map .d)
  | _, _, .nil => .nil
  | _, _, .cons h r => .cons ⟨_, rfl, h⟩ (as_d r)
theorem startF_eq {vs : List V} {cv : List V} {Ns : List Str} : NdefX.startF Ns vs (cv.map some) = L2.start Ns (vs ++ cv) := by
  unfold NdefX.startF L2.start
  rw [List.map_append, List.append_assoc, List.length_map, List.length_append, Nat.sub_add_eq]
/-- a lambda -/
theorem lam_F {F : LF} {e : DE C .fz} (S : NdefX.NScope N ps fr F.scope) (hb : ∀ (pm ctv : Value) (us : List Value), us.length = ps.length → bindArgs (PySem.W.kla_fn "<lambda>" F.qual F.params F.body F.scope F.cl pm (.ref F.c) ctv) ⟨us, []⟩ = pure (ps.zip us))
    (hfu : C.fu j = fr) (hN : N.length = ps.length + fr.length + m) (hR : ∀ as st, R j as st = callD (ps.length + fr.length) m (sRet e) as st)
    (hbody : ∀ (f : Addr) (A : Around) (outer : List Env) (s : Shared) (H : Hp) (E : XK), Room k (A.deeper (NdefX.envF F.nf f s.heap.objs.size)) → ∀ ax : Ax, PE (NdefX.ncx CX0 P w C.K mg base N F.nf f A outer s H E).nox F.body (e.te ⟨fun _ _ _ _ => False, ax⟩)) :
    WOk P w C.K mg base CX0 (k + 1) (.lm F) ps fr (spV C R j) := by
  have len : ∀ ws vs H Q E, spV C R j ws vs H Q E → vs.length = ps.length := by
    rintro ws vs H Q E ⟨s, q, N1, as, cv, cd, st, x, st', rfl, hl, r, I, p, h, k⟩
    rw [hfu] at hl
    rw [hR] at h
    obtain ⟨h1, _⟩ := callD_inv h
    rw [List.length_append, List.length_map] at h1
    rw [paired_len p]
    omega
  refine wok_lam S hb len fun f A outer s H vs ws Q E hr hl hs => ?_
  obtain ⟨s1, q, N1, as, cv, cd, st, x, st', rfl, _, r, I, p, h, k⟩ := hs
  refine ⟨_, (hbody f A outer s H E hr q.ax).nox, ?_⟩
  rw [hR] at h
  obtain ⟨h1, fl, ρ', h2, hc⟩ := callD_inv h
  have p2 := paired_app p (as_d r)
  have ll := paired_len p2
  rw [startF_eq]
  have E0 := ev_start (Ns := N) (m := m) p2 (by rw [hN, ll, h1])
  rcases bindS_inv h2 with ⟨y, h3, rfl, rfl⟩ | ⟨y, st1, h3, h4⟩
  · rcases hc with ⟨y, e, _⟩ | ⟨e, _⟩ | ⟨y, _, e⟩
    · cases e
    · cases e
    · cases e
  · cases h4
    rcases hc with ⟨y, e, e2⟩ | ⟨e, _⟩ | ⟨y, e, _⟩
    · cases e
      cases e2
      exact e.ok E0 I h3 (fun _ _ _ _ => False) _ fun N' H' x I v r => k v N' H' x I r
    · cases e
    · cases e
/-- a nested def -/
theorem ndf_F {F : NdefX.NF} {body : DSt C} (S : NdefX.NScope N ps fr F.scope) (hb : ∀ (doc pm ctv : Value) (us : List Value), us.length = ps.length → bindArgs (F.fd doc pm ctv) ⟨us, []⟩ = pure (ps.zip us))
    (hfu : C.fu j = fr) (hN : N.length = ps.length + fr.length + m) (hR : ∀ as st, R j as st = callD (ps.length + fr.length) m body as st)
    (hbody : ∀ (f : Addr) (A : Around) (outer : List Env) (s : Shared) (H : Hp) (E : XK), Room k (A.deeper (NdefX.envF F f s.heap.objs.size)) → ∀ ax : Ax, PSs (NdefX.ncx CX0 P w C.K mg base N F f A outer s H E).nox F.body (body.ts ⟨fun _ _ _ _ => False, ax⟩)) :
    WOk P w C.K mg base CX0 (k + 1) (.nd F) ps fr (spV C R j) := by
  have len : ∀ ws vs H Q E, spV C R j ws vs H Q E → vs.length = ps.length := by
    rintro ws vs H Q E ⟨s, q, N1, as, cv, cd, st, x, st', rfl, hl, r, I, p, h, k⟩
    rw [hfu] at hl
    rw [hR] at h
    obtain ⟨h1, _⟩ := callD_inv h
    rw [List.length_append, List.length_map] at h1
    rw [paired_len p]
    omega
  refine .nd fun f => NdefX.nok_of S hb len fun A outer s H vs ws Q E hr _ _ hl hs => ?_
  obtain ⟨s1, q, N1, as, cv, cd, st, x, st', rfl, _, r, I, p, h, k⟩ := hs
  refine ⟨_, (hbody f A outer s H E hr q.ax).nox, ?_⟩
  rw [hR] at h
  obtain ⟨h1, fl, ρ', h2, hc⟩ := callD_inv h
  have p2 := paired_app p (as_d r)
  have ll := paired_len p2
  rw [startF_eq]
  have E0 := ev_start (Ns := N) (m := m) p2 (by rw [hN, ll, h1])
  refine body.ok (N0 := N1) (H0 := H) ⟨E0, I, .refl, fun _ => trivial, I.hq⟩ h2 (fun _ _ _ _ => False) _ ?_
  rcases hc with ⟨y, rfl, e⟩ | ⟨rfl, e⟩ | ⟨y, rfl, e⟩
  · cases e
    exact fun v N' H' x i r => k v N' H' x i r
  · cases e
    exact fun σ' N' H' v _ => k _ N' H' v.X v.I .non
  · cases e
/-- nothing is promised yet -/
theorem wok_none {F : FW} {CX : CXT} : WOk P w C.K mg base CX k F ps fr (spV C (fun _ _ _ => none) j) :=
  ⟨fun ws vs H Q E ⟨_, _, _, _, _, _, _, _, _, _, _, _, _, _, h, _⟩ => (by cases h), fun _ _ _ _ _ _ _ _ _ _ _ _ _ _ _ _ ⟨_, _, _, _, _, _, _, _, _, _, _, _, _, _, h, _⟩ => (by cases h)⟩
/-! ### defs that are handed a closure -/
structure ClC (P : Program) (w : World) (K : PySem.W.Frag) (mg : Str → Option Value) (base : Heap) (CX : CXT) (k : Nat) (x : Str) (ps : List Str) (sp : SpC) : Prop where
  ex : ∃ f fd, COk P w K mg base CX k f fd ps sp ∧ mg x = some (.ref f) ∧ PySem.W.keepIn K (.ref f) = true ∧ Binds K fd ps []
variable {x qual : Str} {f : Addr} {fd : FuncData} {st : Stmt} {i : Nat} {body : DSt C}
theorem clc_F (F : Fd C.K x qual st f fd) (S : FnScope N ps (defScope st)) (hm : mg x = some (.ref f)) (b : Binds C.K fd ps []) (hN : N.length = ps.length + m) (hR : ∀ as st, R i as st = callD ps.length m body as st)
    (hbody : ∀ (cdv : Value) (A : Around) (outer : List Env) (s : Shared) (H : Hp) (E : XK), Room k (A.deeper (envOfC qual (defScope st) s.heap.objs.size f cdv)) → ∀ ax : Ax, CelOk ax.cl ax.fr (ax.cv.map some) outer s.heap H →
      PSs (cxOf CX0 P w C.K mg base N qual (defScope st) f cdv A outer s H E).nox (defBody st) (body.ts ⟨fun _ _ _ _ => False, ax⟩)) : ClC P w C.K mg base CX0 (k + 1) x ps (spC C R i) := by
  refine ⟨f, fd, cok_of F S ?_ fun cdv A outer s H vs Q E cl fr ws hr hC hs => ?_, hm, F.kp, b⟩
  · rintro cl fr ws vs H Q E ⟨s, q, N1, as, st1, r, st', _, _, _, I, p, h, k⟩
    rw [hR] at h
    rw [paired_len p]
    exact (callD_inv h).1
  · obtain ⟨s1, q, N1, as, st1, r, st', rfl, rfl, rfl, I, p, h, k⟩ := hs
    rw [hR] at h
    obtain ⟨hl, fl, ρ', hb, hc⟩ := callD_inv h
    refine ⟨_, (hbody cdv A outer s H E hr q.ax hC).nox, ?_⟩
    refine body.ok (N0 := N1) (H0 := H) ⟨ev_start p (by rw [hN, paired_len p, hl]), I, .refl, fun _ => trivial, I.hq⟩ hb (fun _ _ _ _ => False) _ ?_
    rcases hc with ⟨y, rfl, e⟩ | ⟨rfl, e⟩ | ⟨y, rfl, e⟩
    · cases e
      exact fun v N' H' x i r => k v N' H' x i r
    · cases e
      exact fun σ' N' H' v _ => k _ N' H' v.X v.I .non
    · cases e
theorem clc_none {CX : CXT} (F : Fd C.K x x st f fd) (hm : mg x = some (.ref f)) (b : Binds C.K fd ps []) : ClC P w C.K mg base CX k x ps (spC C (fun _ _ _ => none) i) :=
  ⟨f, fd, ⟨fun cl fr ws vs H Q E ⟨_, _, _, _, _, _, _, _, _, _, _, _, h, _⟩ => (by cases h), fun _ _ _ _ _ _ _ _ _ _ _ _ _ _ _ _ _ ⟨_, _, _, _, _, _, _, _, _, _, _, _, h, _⟩ => (by cases h)⟩, hm, F.kp, b⟩
/-! ### defs that make closures -/
/-- the code object of a def of the module is told -/
theorem code_at (F : Fd C.K x qual st (He.fAd C.K (x, none)) fd) {cdv : Value} (e : fd.code = cdv) (hcd : PySem.W.codeIn C.K cdv qual = true) (oc : Value) (od : Option Addr) (osl : Array (Option Value)) (lk : C.K.lookup (He.fAd C.K (x, none)) = some ⟨oc, od, .func fd, osl⟩) : cdv = .ref (He.codeOf C.K (x, none)) := by
  obtain ⟨c, rfl⟩ := He.codeIn_ref hcd
  rw [He.codeOf_eq lk e]
/-- such a def -/
abbrev cdOf (K : PySem.W.Frag) (x : Str) : Value := .ref (He.codeOf K (x, none))
theorem okM (F : Fd C.K x qual st (He.fAd C.K (x, none)) fd) (S : FnScope N ps (defScope st)) {CX : CXT} {sp : Sp} (len : ∀ vs H Q E, sp vs H Q E → vs.length = ps.length)
    (hbody : ∀ (A : Around) (outer : List Env) (s : Shared) (H : Hp) (vs : List V) (Q : VK) (E : XK), Room k (A.deeper (envOfC qual (defScope st) s.heap.objs.size (He.fAd C.K (x, none)) (cdOf C.K x))) → sp vs H Q E →
      ∃ t, PSs (cxOf CX P w C.K mg base N qual (defScope st) (He.fAd C.K (x, none)) (cdOf C.K x) A outer s H E) (defBody st) t ∧ t { nx := fun _ H' => Q .non H', rt := Q } (L2.start N vs) H) : FnOk P w C.K mg base CX (k + 1) (He.fAd C.K (x, none)) fd ps sp := by
  obtain ⟨oc, od, dV, kV, doc, pm, an, cdv, ct, osl, rfl, lk, hcd, _, _⟩ := F.ex
  have e := code_at F (cdv := cdv) rfl hcd oc od osl lk
  subst e
  exact fn_of lk hcd S len fun A outer s H vs Q E hr hsp => hbody A outer s H vs Q E hr hsp
/-- the cells of the running def -/
abbrev axM (K : PySem.W.Frag) (x qual : Str) (st : Stmt) (s : Shared) (ax : Ax) : Ax := { ax with cl := (envOfC qual (defScope st) s.heap.objs.size (He.fAd K (x, none)) (cdOf K x)).cells }
/-- data, the state, the script -/
def noFn : List En → Bool
  | [] => true
  | .d _ :: r => noFn r
  | .st :: r => noFn r
  | .scr :: r => noFn r
  | _ :: _ => false
theorem noFn_ok {s : Sx} {q : Sq} {ax : Ax} {N : Addr → Prop} {H : Hp} : ∀ {as : List En} {vs : List V}, noFn as = true → Paired (fun v n => EnR C s q full N H n (some v)) vs as → Paired (fun v n => EnR C s { q with ax := ax } full N H n (some v)) vs as
  | [], _, _, .nil => .nil
  | .d _ :: r, _, h, .cons z zs => .cons z (noFn_ok (as := r) h zs)
  | .st :: r, _, h, .cons z zs => .cons z (noFn_ok (as := r) h zs)
  | .scr :: r, _, h, .cons z zs => .cons z (noFn_ok (as := r) h zs)
/-- what a def that makes closures is asked: data, the state, the script -/
def callM (n m : Nat) (b : DSt C) (as : List En) (st : Ds) : Re PyData := if noFn as = true then callD n m b as st else none
theorem cl_M (F : Fd C.K x qual st (He.fAd C.K (x, none)) fd) (S : FnScope N ps (defScope st)) (hm : mg x = some (.ref (He.fAd C.K (x, none)))) (b : Binds C.K fd ps []) (hN : N.length = ps.length + m) (hR : ∀ as st, R i as st = callM ps.length m body as st)
    (hbody : ∀ (A : Around) (outer : List Env) (s : Shared) (H : Hp) (E : XK), Room k (A.deeper (envOfC qual (defScope st) s.heap.objs.size (He.fAd C.K (x, none)) (cdOf C.K x))) → ∀ ax : Ax,
      PSs (cxOf CX0 P w C.K mg base N qual (defScope st) (He.fAd C.K (x, none)) (cdOf C.K x) A outer s H E).nox (defBody st) (body.ts ⟨fun _ _ _ _ => False, axM C.K x qual st s ax⟩)) : Cl P w C.K mg base CX0 (k + 1) x ps (spF C R i) := by
  refine ⟨_, _, okM F S (sp := spF C R i) ?_ fun A outer s H vs Q E hr hs => ?_, hm, F.kp, b⟩
  · rintro vs H Q E ⟨s, q, N1, as, st1, r, st', I, p, h, k⟩
    rw [hR] at h
    unfold callM at h
    split at h
    · rw [paired_len p]
      exact (callD_inv h).1
    · cases h
  · obtain ⟨s1, q, N1, as, st1, r, st', I, p, h, k⟩ := hs
    rw [hR] at h
    unfold callM at h
    split at h
    · rename_i hn
      obtain ⟨hl, fl, ρ', hb, hc⟩ := callD_inv h
      refine ⟨_, (hbody A outer s H E hr q.ax).nox, ?_⟩
      refine body.ok (N0 := N1) (H0 := H) (q := { q with ax := axM C.K x qual st s q.ax }) ⟨ev_start (noFn_ok hn p) (by rw [hN, paired_len p, hl]), I.ax, .refl, fun _ => trivial, I.hq⟩ hb (fun _ _ _ _ => False) _ ?_
      rcases hc with ⟨y, rfl, e⟩ | ⟨rfl, e⟩ | ⟨y, rfl, e⟩
      · cases e
        exact fun v N' H' x i r => k v N' H' x i.unax r
      · cases e
        exact fun σ' N' H' v _ => k _ N' H' v.X v.I.unax .non
      · cases e
    · cases h
end
end De

namespace De
open PySem PySem.Spec PyProof.Rows L2 Dx Dg Fv LamX
section
variable {C : Ct} {s : Sx} {q : Sq} {N0 N N1 N' : Addr → Prop} {H0 H H1 H' : Hp} {σ : L2.St} {ρ ρ' : Rho} {st st' st1 : Ds} {W : WX} {D : Ends} {fl : Fl}
/-- the reading of: node, made = ways[-1]; if len(made) < len(node[1]): ways.append((node[1][len(made)], [])) else: ways.pop(); result = make(node[0], made); rest -/
def tFoldV (C : Ct) (R : Tab) (W : Wc) (mk w nd md rs : Nat) (rest : TS) : TS :=
  tSeq (tAsg (tOp (rIxL C.K) (tVar w) (tUn (rU fun i => .int (-i)) (tC (.int 1)))) (gTup C.K 2 (gCons (gName nd) (gCons (gName md) gNil))))
    (tIfS (tTest (tOp (rI0 fun i j => .bl (decide (i < j))) (tCB (bLen C).r (tCons (tVar md) tNil)) (tCB (bLen C).r (tCons (tOp (rIxT C.K) (tVar nd) (tC (.int 1))) tNil))))
      (tDrop (tBM C.K "list" rAppend (tVar w) (tCons (tPr (tOp (rIxT C.K) (tOp (rIxT C.K) (tVar nd) (tC (.int 1))) (tCB (bLen C).r (tCons (tVar md) tNil)))) tNil)))
      (tSeq (tDrop (tBM0 C.K "list" rPop (tVar w)))
        (tSeq (tAsg (tCV C R mk W (tCons (tOp (rIxT C.K) (tVar nd) (tC (.int 0))) (tCons (tVar md) tNil))) (gName rs)) rest)))
def sFoldV [Nw C] (R : Tab) (mk w nd md rs : Nat) (rest : DSt C) : DSt C := ⟨fun W => tFoldV C R W mk w nd md rs (rest.ts W), fun ρ st => match ρ[w]?, ρ[mk]? with
  | some (.own3 ps), some (.fn fj (some cd)) => match ps[ps.length - 1]? with
    | some (.tuple [n, .tuple cs], ds) => if (fj ∈ C.ji ∧ cd.length = (C.fu fj).length) ∧ ps.length < 100000 ∧ nd < ρ.length ∧ md < ρ.length ∧ nd ≠ md ∧ w ≠ nd ∧ w ≠ md ∧ mk ≠ nd ∧ mk ≠ md ∧ mk ≠ w then
        match cs[ds.length]? with
        | some c => some (.nx, ((ρ.set nd .no).set md .no).set w (.own3 (ps ++ [(c, [])])), st)
        | none => match R fj ([.d n, .d (.list ds)] ++ cd.map .d) st with
          | some (.ok r, st1) => rest.ev ((((ρ.set nd .no).set md .no).set w (.own3 ps.dropLast)).set rs (.d r)) st1
          | _ => none
      else none
    | _ => none
  | _, _ => none, fun {s q N0 H0 N H σ ρ ρ' st st' fl} v h W D k => by
  split at h
  · rename_i ps fj cd hi hk
    split at h
    · rename_i n cs ds hp
      split at h
      · rename_i hc
        obtain ⟨⟨hfj, hfl⟩, hsz, hnd, hmd, n1, n2, n3, n4, n5, n6⟩ := hc
        obtain ⟨l, ts, ho, w3⟩ := v.E.own3 hi
        obtain ⟨t, xs, ht, hlen, hm, h3, h4, h5, h6⟩ := w3.last hp
        obtain ⟨o, hok, f, fc, rfl, fa, hfr, hcv⟩ := v.E.get hk
        -- node, made = ways[-1]
        refine ⟨_, ho, 1, rfl, l, m1 ts, -1, .ref t.1, rfl, rfl, SqL.of w3.hl, w3.atm ht, t.1, [t.2.1, .ref t.2.2], rfl, .inl (.inl h3), rfl, _, _, rfl, _, _, rfl, rfl, ?_⟩
        obtain ⟨a, us, ea, hsq, hrs⟩ := h4.tup_of
        cases hrs with
        | @cons un _ _ _ hn hrest =>
          cases hrest with
          | @cons uc _ _ _ hcs hnil =>
            cases hnil
            obtain ⟨b, vs, eb, hsq2, hrs2⟩ := hcs.tup_of
            subst eb
            have v1 := (v.setNo (i := nd) (o := some t.2.1)).setNo (i := md) (o := some (.ref t.2.2))
            have hσ : (σ.set nd (some t.2.1)).length = σ.length := List.length_set
            have hnl : nd < σ.length := by rw [v.E.len]; exact hnd
            have hml : md < σ.length := by rw [v.E.len]; exact hmd
            have gnd : ((σ.set nd (some t.2.1)).set md (some (.ref t.2.2)))[nd]? = some (some t.2.1) := by rw [List.getElem?_set_ne n1.symm, List.getElem?_set_self hnl]
            have gmd : ((σ.set nd (some t.2.1)).set md (some (.ref t.2.2)))[md]? = some (some (.ref t.2.2)) := List.getElem?_set_self (by rw [hσ]; exact hml)
            have gw : ((σ.set nd (some t.2.1)).set md (some (.ref t.2.2)))[w]? = some (some (.ref l)) := by rw [List.getElem?_set_ne n3.symm, List.getElem?_set_ne n2.symm]; exact ho
            have gmk : ((σ.set nd (some t.2.1)).set md (some (.ref t.2.2)))[mk]? = some (some (.ref f)) := by rw [List.getElem?_set_ne n5.symm, List.getElem?_set_ne n4.symm]; exact hok
            have hi1 : ((ρ.set nd .no).set md .no)[w]? = some (.own3 ps) := by rw [List.getElem?_set_ne n3.symm, List.getElem?_set_ne n2.symm]; exact hi
            have hxl : xs.length = ds.length := h6.r.length
            have hvl : vs.length = cs.length := hrs2.length
            -- len(made) < len(node[1])
            refine ⟨_, gmd, _, _, rfl, .inl ⟨xs, SqL.of h6.hl, rfl⟩, _, gnd, a, _, 1, .ref b, ea, rfl, hsq, atI_1, _, _, rfl, .inr ⟨vs, hsq2, rfl⟩, _, _, rfl, rfl, _, rfl, ?_⟩
            split at h
            · rename_i c hcc
              cases h
              have hlt : ds.length < cs.length := (List.getElem?_eq_some_iff.mp hcc).1
              refine iteT' (by rw [hxl, hvl]; exact decide_eq_true (by omega)) ?_
              obtain ⟨uc, huc, hrc⟩ := hrs2.got hcc
              refine ⟨_, gw, tyV_lst w3.hl, _, gnd, a, _, 1, .ref b, ea, rfl, hsq, atI_1, _, gmd, _, _, rfl, .inl ⟨xs, SqL.of h6.hl, rfl⟩, b, vs, _, uc, rfl, rfl, hsq2, by rw [hxl]; exact De.atI_nat huc, ?_⟩
              exact push_ok v1 gw hi1 w3 hrc hsz k
            · rename_i hcc
              have hge : cs.length ≤ ds.length := by
                rcases Nat.lt_or_ge ds.length cs.length with z | z
                · rw [List.getElem?_eq_getElem z] at hcc; cases hcc
                · exact z
              refine iteF' (by rw [hxl, hvl]; exact decide_eq_false (by omega)) ?_
              split at h
              · rename_i r st1 hR
                have em := m1_last ht
                have hlast : (m1 ts)[(m1 ts).length - 1]? = some (.ref t.1) := by
                  rw [List.length_map, List.getElem?_map, ht]
                  rfl
                refine ⟨_, gw, tyV_lst w3.hl, l, m1 ts, .ref t.1, rfl, rfl, w3.hl, hlast, ?_⟩
                obtain ⟨o3, v2, f2⟩ := v1.pop3 hi1 gw w3
                have ed : (m1 ts).dropLast = m1 ts.dropLast := by rw [m1, m1, List.map_dropLast]
                rw [ed]
                have hcl : t.2.2 ≠ l := w3.out t hm
                have hc2 : (upd H l (.lst (m1 ts.dropLast))) t.2.2 = some (.lst xs) := by rw [upd_ne hcl]; exact h6.hl
                have hmdl : md < ρ.length := hmd
                obtain ⟨v3, f3⟩ := v2.frzA (c := t.2.2) hc2 h6.ls h5 fun j e u hj1 hj2 hw => by
                  by_cases hjw : j = w
                  · subst hjw
                    rw [List.getElem?_set_self (by rw [List.length_set, List.length_set]; exact (List.getElem?_eq_some_iff.mp hi).1)] at hj1
                    cases hj1
                    rw [gw] at hj2
                    cases hj2
                    rcases o3.ow_inv hw with z | ⟨y, hy, hyc⟩
                    · exact hcl z
                    · obtain ⟨jj, hjj, ejj⟩ := List.mem_iff_getElem.mp hy
                      have hjj2 := hjj
                      rw [List.length_dropLast] at hjj2
                      rw [List.getElem_dropLast] at ejj
                      have e3 : ts[jj]? = some y := by rw [List.getElem?_eq_getElem (by omega), ejj]
                      have := nd_last w3.nd ht e3 hyc.symm
                      omega
                  · rw [List.getElem?_set_ne (fun z => hjw z.symm)] at hj1
                    have no : ¬ Ow H e u l := fun z => v1.E.dis j w e _ u _ l hjw hj1 hi1 hj2 gw z (w3.ow (.inl rfl))
                    have r1 := v1.E.at_ j e u hj1 hj2
                    have w4 := r1.ow_back (fun b x y hb => by rw [upd_ne (by rintro rfl; exact no y)]; exact hb) (fun b xs hb => by rw [upd_ne (by rintro rfl; rw [w3.hl] at hb; cases hb)]; exact hb) hw
                    exact v1.E.dis j w e _ u _ t.2.2 hjw hj1 hi1 hj2 gw w4 (w3.ow (.inr ⟨t, hm, rfl⟩))
                have hs2 : SqT C.K (upd H l (.lst (m1 ts.dropLast))) a [un, .ref b] := sqT_upd w3.hl hsq
                have fa2 : FwAt C (upd H l (.lst (m1 ts.dropLast))) f fj q.ax.cl fc := fa.upd w3.hl fun _ z => by cases z
                refine ⟨f, fj, fc, gmk, hfj, hfr.symm, fa2.o, _, gnd, a, _, 0, un, ea, rfl, hs2, atI_0, _, gmd, fa2.o, fa2.k, s, q, _, [.d n, .d (.list ds)], q.ax.cv, cd, st, r, st1, rfl, hfl, rps_fz (rps_mut w3.hl w3.nn hcv), v3.I, ?_, hR, fun u1 N2 H2 X2 I2 r2 => ?_⟩
                · refine .cons ⟨un, rfl, rp_fz (rp_mut w3.hl w3.nn hn)⟩ (.cons ⟨_, rfl, .lst (.inr rfl) hc2 (rps_fz (rps_mut w3.hl w3.nn h6.r))⟩ .nil)
                · have v4 := (v3.xt X2 I2).setD (i := rs) r2
                  exact rest.ok v4 h W D (k.step ((f2.trans f3).trans (X2.fx v3.I)))
              · cases h
      · cases h
    · cases h
  · cases h⟩

/-- def x(..): .. in a def's body, the slot i holds the new closure -/
def sNdef (i j : Nat) (hw : ∀ cl c, C.wf j cl c = .nd (C.wf j cl c).nf) (hc : ∀ cl c, (C.wf j cl c).nf.c = c) : DSt C := ⟨fun W => NdefX.tNdefM C.T i fun c => (C.wf j (clo C W.ax.cl j) c).nf, fun ρ st => match ρ[i]? with
  | some .no => some (.nx, ρ.set i (.fn j none), st)
  | _ => none, fun {s q N0 H0 N H σ ρ ρ' st st' fl} v h W D k => by
  split at h
  · cases h
    refine ⟨v.I.tb, fun f c H1 e g t1 hf h1 h2 => ?_⟩
    have X : Xt s N H N H1 := Xt.extN e g
    have I1 := v.I.extN e g t1
    have fa : FwAt C H1 f j (clo C q.ax.cl j) c := ⟨by rw [hw]; exact h1, by rw [hc]; exact h2⟩
    have v1 := v.xt X I1
    exact k _ _ _ ⟨v1.E.set ⟨f, c, rfl, fa⟩ (fun a z => z.elim), v1.I, v1.X, fun _ => trivial, v1.hq⟩ (X.fx v.I)
  · cases h⟩
end
end De

/-! How closures are derived, how they read; the law's start where tables of code objects stand. -/
namespace De
open PySem PySem.Spec PyProof.Rows L2 Dx Dg Fv LamX NdefX
/-- the law's promise -/
def spLawT (K : PySem.W.Frag) (T : List NTab) : Sp := fun vs H Q _ => ∃ (a : Addr) (ns : List Int), vs = [.ref a] ∧ ns.length ≤ 63 ∧ SqL K H a (ns.map V.int) ∧ TabsN T H ∧ ∀ H', Q (.bl true) H'
section
variable {P : Program} {w : World} {C : Ct} {mg : Str → Option Value} {base : Heap} {f : Addr} {fd : FuncData} {st : Stmt} {Nr : List Str} {k : Nat} {body : DSt C} {te : TE} {s0 : List Int} {R : Tab}
theorem law_FT (hmd : C.md = false) (F : Fd C.K "law" "law" st f fd) (S : FnScope ("script" :: "state" :: Nr) ["script"] (defScope st))
    (hte : ∀ (σ : L2.St) (H : Hp) (a : Addr) (Q : VK), σ[0]? = some (some (.ref a)) → (∀ p, H p = none → Q (.ref p) (upd H p (.lst (stV C ⟨a, [], ax0, none, none⟩ ⟨[], s0, [], false, []⟩)))) → te σ H Q)
    (hev : ∀ ns : List Int, ns.length ≤ 63 → ∃ ρ' st', body.ev (.scr :: .st :: List.replicate Nr.length .no) ⟨ns, s0, [], false, []⟩ = some (.rt (.bool true), ρ', st'))
    (hbody : ∀ (cdv : Value) (A : Around) (outer : List Env) (s : Shared) (H : Hp) (E : XK), Room k (A.deeper (envOfC "law" (defScope st) s.heap.objs.size f cdv)) →
      PSs (cxOf CX0 P w C.K mg base ("script" :: "state" :: Nr) "law" (defScope st) f cdv A outer s H E).nox (defBody st) (tSeq (tAsg te (gName 1)) (body.ts ⟨fun _ _ _ _ => False, ax0⟩))) : FnOk P w C.K mg base CX0 (k + 1) f fd ["script"] (spLawT C.K C.T) := by
  refine ok0 F S ?_ fun cdv A outer s H vs Q E hr hs => ⟨_, hbody cdv A outer s H E hr, ?_⟩
  · rintro vs H Q E ⟨a, ns, rfl, _⟩
    rfl
  · obtain ⟨a, ns, rfl, hn, hS, hT, hQ⟩ := hs
    obtain ⟨ρ', st', he⟩ := hev ns hn
    refine hte _ _ a _ rfl fun p hp => ?_
    let q : Sq := ⟨a, ns, ax0, none, none⟩
    let sx : Sx := ⟨p, fun _ => False⟩
    let N0 : Addr → Prop := fun _ => False
    let H1 : Hp := upd H p (.lst (stV C q ⟨ns, s0, [], false, []⟩))
    have I : Iv C sx q N0 H1 ⟨ns, s0, [], false, []⟩ := by
      refine ⟨fun _ z => z.elim, fun z => z, upd_same, ?_, rfl, fun _ _ z => z, fun z => z, fun m => (by rw [hmd] at m; cases m), rfl, hT.ext (same_new hp)⟩
      rcases hS with (h | ⟨o, h⟩) | h
      · have n : a ≠ p := by rintro rfl; rw [hp] at h; cases h
        exact .inl ⟨.inl ((upd_ne n).trans h), n, fun z => z⟩
      · have n : a ≠ p := by rintro rfl; rw [hp] at h; cases h
        exact .inl ⟨.inr ⟨o, (upd_ne n).trans h⟩, n, fun z => z⟩
      · exact .inr h
    have E0 : Ev C sx q H1 N0 H1 (L2.start ("script" :: "state" :: Nr) [.ref a]) (List.replicate (Nr.length + 2) .no) := by
      refine ⟨?_, fun i e o h1 _ => ?_, fun i j e f o u b _ h1 _ _ _ w _ => ?_⟩
      · unfold L2.start
        simp
      · rw [List.getElem?_replicate] at h1
        split at h1
        · cases h1; exact trivial
        · cases h1
      · rw [List.getElem?_replicate] at h1
        split at h1
        · cases h1
          exact w
        · cases h1
    have E1 := (E0.set (i := 0) (n := .scr) (o := some (.ref a)) rfl fun _ z => z.elim).set (i := 1) (n := .st) (o := some (.ref p)) ⟨rfl, rfl⟩ fun _ z => z.elim
    have E2 : Ev C sx q H1 N0 H1 ((L2.start ("script" :: "state" :: Nr) [.ref a]).set 1 (some (.ref p))) (.scr :: .st :: List.replicate Nr.length .no) := E1
    exact body.ok (s := sx) (q := q) ⟨E2, I, .refl, fun _ => trivial, I.hq⟩ he _ _ fun v N' H' _ _ r => by
      cases r
      exact hQ H'
end
section
variable {X : Cx} {j k n : Nat} {x : Str} {ps fr : List Str} {sp : SpC} {p pos : Pos} {e : Expr} {es : List Expr} {t : TA} {cl : List (Str × Addr)} {ws : List (Option V)} {js : List Nat}
/-- the names' places -/
theorem caps_by {sc : Scope} (h : ndefB X.env.scope sc fr = true) (hjs : (js.map fun j => X.N[j]?) = fr.map some) (ok : X.Ok) : Caps X (cloFrom X.env.cells sc.names []) fr js := Caps.made ok (ndef_free h) (ndef_fr h) hjs
theorem pe_clC (c : ClC X.prog X.w X.K X.mg X.base CX0 k x ps sp) (hr : Room j X.A) (hk : k ≤ j) (hg : Gl X x) (cp : X.Ok → Caps X cl fr js) (hf : ∀ y, X.fn y = true) (ha : PA X (e :: es) t)
    (hdb : (x == ("__debug__" : Str)) = false := by decide) (he : starEach (e :: es) X.env = (false, eval e X.env) :: starEach es X.env := by rfl) (hpl : (backTo pos (starEach es X.env)).any (·.1) = false := by rfl) :
    PE X (.Call (.Name x p) (e :: es) [] pos) (tCallC sp cl fr js E0 t) := by
  obtain ⟨f, fd, F, hm, kp, b⟩ := c.ex
  exact pe_callC F hr hk hg hm kp b pass0 cp hf ha hdb he hpl
theorem pe_clP (c : ClC X.prog X.w X.K X.mg X.base CX0 k x ps sp) (hr : Room j X.A) (hk : k ≤ j) (hg : Gl X x) (C : CelOk cl fr ws X.outer X.s_0.heap X.H_0) (hex : X.ex = []) (ha : PA X (e :: es) t)
    (hdb : (x == ("__debug__" : Str)) = false := by decide) (he : starEach (e :: es) X.env = (false, eval e X.env) :: starEach es X.env := by rfl) (hpl : (backTo pos (starEach es X.env)).any (·.1) = false := by rfl) :
    PE X (.Call (.Name x p) (e :: es) [] pos) (tCallP sp cl fr ws E0 t) := by
  obtain ⟨f, fd, F, hm, kp, b⟩ := c.ex
  exact pe_callP F hr hk hg hm kp b pass0 C hex ha hdb he hpl
end
section
variable {C : Ct} {W : Wc} {ρ : Rho} {st : Ds} {i j f : Nat} {js : List Nat} {R : Tab} {t : DA C}
theorem te_aLam : (aLam j t).ta W = tCons (tLamE C.T fun c => C.wf j (clo C W.ax.cl j) c) (t.ta W) := rfl
theorem te_aFn : (aFn i t).ta W = tCons (tVar i) (t.ta W) := rfl
theorem te_dCallC : (dCallC R f j js t).te W = tCallC (spC C R f) (clo C W.ax.cl j) (C.fu j) js E0 (t.ta W) := rfl
theorem te_dCallP : (dCallP R f t).te W = tCallP (spC C R f) W.ax.cl W.ax.fr (W.ax.cv.map some) E0 (t.ta W) := rfl
theorem te_dCallV : (dCallV R i t).te W = tCV C R i W (t.ta W) := rfl
theorem ts_sFoldV [Nw C] {mk w nd md rs : Nat} {rest : DSt C} : (sFoldV R mk w nd md rs rest).ts W = tFoldV C R W mk w nd md rs (rest.ts W) := rfl
theorem ts_sNdef {hw : ∀ cl c, C.wf j cl c = .nd (C.wf j cl c).nf} {hc : ∀ cl c, (C.wf j cl c).nf.c = c} : (sNdef i j hw hc).ts W = tNdefM C.T i fun c => (C.wf j (clo C W.ax.cl j) c).nf := rfl
@[simp] theorem ev_aLam : (aLam j t).ev ρ st = bindR (t.ev ρ st) fun as st2 => some (.ok (.fn j none :: as), st2) := rfl
@[simp] theorem ev_aFn {cd : Option (List PyData)} (h : ρ[i]? = some (.fn j cd)) : (aFn i t).ev ρ st = bindR (t.ev ρ st) fun as st2 => some (.ok (.fn j cd :: as), st2) := by simp only [aFn, h]
/-- only ends -/
def okE : Re PyData → Re PyData
  | some (.ok x, st2) => some (.ok x, st2)
  | _ => none
@[simp] theorem okE_ok {x : PyData} : okE (some (.ok x, st)) = some (.ok x, st) := rfl
theorem ev_dCallC : (dCallC R f j js t).ev ρ st = bindR (t.ev ρ st) fun as st1 => match capt ρ js with
  | some cd => match hands j cd as with
    | some bs => okE (R f bs st1)
    | none => none
  | none => none := rfl
@[simp] theorem ev_dCallP : (dCallP R f t).ev ρ st = bindR (t.ev ρ st) fun as st1 => okE (R f as st1) := rfl
@[simp] theorem ev_dCallV {cd : List PyData} (h : ρ[i]? = some (.fn j (some cd))) (hj : j ∈ C.ji) (hl : cd.length = (C.fu j).length) : (dCallV R i t).ev ρ st = bindR (t.ev ρ st) fun as st1 => okE (R j (as ++ cd.map .d) st1) := by
  simp only [dCallV, h, hj, hl, and_self, if_true]
  rfl
@[simp] theorem es_sNdef {hw : ∀ cl c, C.wf j cl c = .nd (C.wf j cl c).nf} {hc : ∀ cl c, (C.wf j cl c).nf.c = c} (h : ρ[i]? = some .no) : (sNdef i j hw hc).ev ρ st = some (.nx, ρ.set i (.fn j none), st) := by simp only [sNdef, h]
end
end De

/-! for i in reversed(range(n)). -/
namespace De
open PySem L2 Dx
section
variable {C : Ct}
def rngRev (n : Nat) : List PyData := (List.range n).map fun i => .int ((n : Int) - 1 - (i : Nat))
theorem wk_rev {K : PySem.W.Frag} {s : Sx} {N : Addr → Prop} {H : Hp} {n : Nat} : Wk K s .fz N H (Itc (0 + ((n : Nat) : Int) - 1) (-1) n) (rngRev n) := by
  refine ⟨(List.range n).map fun i => V.int ((n : Int) - 1 - (i : Nat)), fun _ => True, ?_, rps_map fun c => .int _, fun _ _ _ => trivial⟩
  rw [List.length_map, List.length_range]
  refine walk_rangeC.mono (fun _ h => h) fun i H v H' hi _ y => ?_
  obtain ⟨rfl, rfl⟩ := y
  refine ⟨rfl, ?_⟩
  rw [List.getElem?_map, List.getElem?_range hi]
  have e : (0 + ((n : Nat) : Int) - 1 + (i : Nat) * (-1) : Int) = (n : Int) - 1 - (i : Nat) := by omega
  show some (V.int ((n : Int) - 1 - (i : Nat))) = some (V.int (0 + ((n : Nat) : Int) - 1 + (i : Nat) * (-1)))
  rw [e]
def iRR (a : DE C .pk) : DI C .fz := ⟨fun W => iRevR (tRg1 (a.te W)), fun ρ st => bindR (a.ev ρ st) fun x st1 => match x with
  | .int j => if j.natAbs < 4611686018427387904 then some (.ok (rngRev j.toNat), st1) else none
  | _ => none, fun {s q H0 N σ H ρ st st' r} E I h W Q k => by
  rcases bindR_inv h with ⟨e, h1, rfl⟩ | ⟨x, st1, h1, h2⟩
  · exact a.ok E I h1 W _ k.err
  · refine a.ok E I h1 W _ fun N1 H1 e1 I1 v r1 => ?_
    split at h2
    · rename_i j
      split at h2
      · rename_i hj
        cases h2
        cases pk_i r1
        refine ⟨j, rfl, by omega, by omega, by omega, by omega, ?_⟩
        have e : (j - 0).toNat = j.toNat := by rw [Int.sub_zero]
        rw [e]
        exact k _ _ e1 I1 _ wk_rev
      · cases h2
    · cases h2⟩
theorem te_iRR {a : DE C .pk} {W : Wc} : (iRR a).ti W = iRevR (tRg1 (a.te W)) := rfl
@[simp] theorem ev_iRRn {a : DE C .pk} {ρ : Rho} {st st1 : Ds} {j : Int} (h : a.ev ρ st = some (.ok (.int j), st1)) (hj : j.natAbs < 4611686018427387904) : (iRR a).ev ρ st = some (.ok (rngRev j.toNat), st1) := by
  show bindR (a.ev ρ st) _ = _
  rw [h]
  show (if _ then _ else _) = _
  rw [if_pos hj]
end
end De

/-! x.extend(a tuple). -/
namespace De
open PySem PySem.Spec PyProof.Rows L2 Dx Dg
/-- a list that is lengthened by the items of a tuple -/
theorem extend_tup (l : Addr) (xs : Array Value) (n : Nat) (b : Addr) (dd : Option Addr) (sl : Array (Option Value)) (ys : Array Value) (m : Nat) (h0 : ¬(!xs.isEmpty && Builtin.List.listTooLong (xs.size + ys.size)) = true) (h1 : xs.size ≤ sizeLine) (h2 : (xs ++ ys).size ≤ sizeLine + 1) :
    Meets (Builtin.«list.extend» ⟨[.ref l, .ref b], []⟩) (fun _ R s => s.heap.get? l = some { cls := .type "list", dict := none, data := .seq xs n, slots := #[] } ∧ s.heap.get? b = some { cls := .type "tuple", dict := dd, data := .seq ys m, slots := sl } ∧
      R (.ok (.ret Value.none)) { s with heap := s.heap.update l (Obj.mapSeq fun x => x ++ ys), toks := s.toks }) :=
  .of_wp fun prog w A R s h => by
    obtain ⟨hp, g, d, tk, os⟩ := s
    obtain ⟨hl, hb, h⟩ := h
    have f1 := AutoSeq1.idx_int
    have f2 := AutoSeq1.sub_tuple_tuple
    have f3 := AutoSeq1.sub_list_list
    have f4 := AutoSeq1.sub_tuple_list
    have f5 := AutoSeq1.sub_list_tuple
    wp_walk using (wpAny_updateSeq hl rfl (hz := h1) (_hz' := h2)), AutoSeq1.wpAny_loadPart' hl, AutoSeq1.wpAny_loadPart' hb
    exact ⟨_, rfl, h⟩
def rExtT (K : PySem.W.Frag) : V → List V → Hp → VK → Prop := fun x vs H Q => ∃ l b xs zs, x = .ref l ∧ vs = [.ref b] ∧ H l = some (.lst xs) ∧ SqT K H b zs ∧ xs.length + zs.length ≤ sizeLine ∧ Q .non (upd H l (.lst (xs ++ zs)))
theorem mt_extendT {X : Cx} : MtM X "list.extend" (rExtT X.K) := fun pins s σ H x vs v us Q I rx rv h => by
  obtain ⟨l, b, xs, zs, rfl, rfl, hl, hb, hz, q⟩ := h
  cases rx
  obtain ⟨u, rfl, ru⟩ := rv.one
  cases ru
  obtain ⟨z, its, n, r, ll, e⟩ := I.lstM hl
  obtain ⟨its2, r2, ⟨⟨oc, od, dt, osl⟩, e2, hc, n2, hd⟩, l2⟩ := I.tuple hb
  have hc : oc = .type "tuple" := hc
  have hd : dt = .seq its2.toArray n2 := hd
  subst hc hd
  have le2 := r2.length
  have sz : its.toArray.size + its2.toArray.size ≤ sizeLine := by rw [List.size_toArray, List.size_toArray]; omega
  have nl : ¬ (!its.toArray.isEmpty && Builtin.List.listTooLong (its.toArray.size + its2.toArray.size)) = true := by
    rw [notLongL sz, Bool.and_false]
    exact Bool.false_ne_true
  refine call_meets F.slot_list_extend ⟨_, e, rfl⟩ F.entry_list_extend (F.args_list_extend_2 _ _) (extend_tup l its.toArray n b od osl its2.toArray n2 nl (by rw [List.size_toArray]; omega) (by rw [Array.size_append]; omega)) ⟨e, e2, ?_⟩
  exact ⟨.non, _, I.lset (its' := its ++ its2) hl e (by simp) (r.append r2) (by rw [List.length_append]; omega), rfl, q⟩
section
variable {C : Ct}
def sExtT (i : Nat) (a : DE C .pk) : DSt C := ⟨fun W => tDrop (tBM C.K "list" (rExtT C.K) (tVar i) (tCons (a.te W) tNil)), fun ρ st => match ρ[i]? with
  | some (.own ds) => bindS (a.ev ρ st) ρ fun x st1 => match x with
    | .tuple es => if ds.length + es.length ≤ 100000 then some (.nx, ρ.set i (.own (ds ++ es)), st1) else none
    | _ => none
  | _ => none, fun {s q N0 H0 N H σ ρ ρ' st st' fl} v h W D k => by
  split at h
  · rename_i ds hi
    obtain ⟨l, xs, ho, h0, w⟩ := v.E.own hi
    refine ⟨_, ho, tyV_lst w.hl, ?_⟩
    rcases bindS_inv h with ⟨e, h1, rfl, rfl⟩ | ⟨x, st1, h1, h2⟩
    · exact a.ok v.E v.I h1 W _ (SOut.out v k)
    · refine a.ok v.E v.I h1 W _ fun N1 H1 e1 I1 u r1 => ?_
      split at h2
      · split at h2
        · rename_i hz
          cases h2
          have w1 := w.xt v.I e1
          obtain ⟨l2, ys, rfl, h3, h4⟩ := pk_t r1
          obtain ⟨m1, m2⟩ := (v.xt e1 I1).mut hi ho h0 w1 (w1.r.app h4)
          exact ⟨l, l2, xs, ys, rfl, rfl, w1.hl, h3, by rw [w1.r.length, h4.length]; exact sz_of hz, k _ _ _ m1 ((e1.fx v.I).trans m2)⟩
        · cases h2
      · cases h2
  · cases h⟩
theorem ts_sExtT {i : Nat} {a : DE C .pk} {W : Wc} : (sExtT i a).ts W = tDrop (tBM C.K "list" (rExtT C.K) (tVar i) (tCons (a.te W) tNil)) := rfl
theorem es_sExtT {i : Nat} {a : DE C .pk} {ρ : Rho} {st : Ds} {ds : List PyData} (h : ρ[i]? = some (.own ds)) : (sExtT i a).ev ρ st = bindS (a.ev ρ st) ρ fun x st1 => match x with
    | .tuple es => if ds.length + es.length ≤ 100000 then some (.nx, ρ.set i (.own (ds ++ es)), st1) else none
    | _ => none := by
  show (match ρ[i]? with
  | some (.own ds) => bindS (a.ev ρ st) ρ fun x st1 => match x with
    | .tuple es => if ds.length + es.length ≤ 100000 then some (Fl.nx, ρ.set i (.own (ds ++ es)), st1) else none
    | _ => none
  | _ => none) = _
  rw [h]
end
end De

/-! Objects of own classes that nobody changes once they are made: they stand for data. -/
namespace De
open PySem PySem.Spec PyProof.Rows L2 Dx Dg
structure OCl (K : PySem.W.Frag) (oc : Addr) (on : List Str) : Prop where
  cls : Cls K oc
  na : ∀ f, f ∈ on → NoAttr K oc f
  len : on.length < 1000
/-- the data of an object -/
abbrev obD (oc : Addr) (on : List Str) (xs : List PyData) : PyData := .dict ((PyData.none, PyData.int (oc : Nat)) :: (on.zip xs).map fun p => (PyData.str p.1, p.2))
section
variable {C : Ct} {k : Kd} {s : Sx} {q : Sq} {N0 N N1 N' : Addr → Prop} {H0 H H1 H' : Hp} {σ : L2.St} {ρ ρ' : Rho} {st st' st1 : Ds} {W : WX} {D : Ends} {fl : Fl} {K : PySem.W.Frag}
theorem lkO_ok {f : Str} {y : PyData} : ∀ {ks : List Str} {xs : List V} {ds : List PyData}, RpAll K N H xs ds → lkD ((ks.zip ds).map fun p => (PyData.str p.1, p.2)) f = some y → ∃ v, (ks.zip xs).lookup f = some v ∧ Rp K N H v y
  | [], _, _, _, h => by cases h
  | _ :: _, _, _, .nil, h => by cases h
  | g :: ks, _, _, .cons (v := v) r rs, h => by
    change (if g = f then some _ else lkD ((ks.zip _).map fun p => (PyData.str p.1, p.2)) f) = some y at h
    split at h
    · rename_i e
      cases h
      subst e
      exact ⟨v, by simp [List.lookup], r⟩
    · rename_i e
      obtain ⟨u, h1, h2⟩ := lkO_ok rs h
      refine ⟨u, ?_, h2⟩
      rw [List.zip_cons_cons, List.lookup_cons, (beq_eq_false_iff_ne).mpr (fun z => e z.symm)]
      exact h1
theorem lkO_no {f : Str} : ∀ {ks : List Str} {xs : List V} {ds : List PyData}, RpAll K N H xs ds → lkD ((ks.zip ds).map fun p => (PyData.str p.1, p.2)) f = none → (ks.zip xs).lookup f = none
  | [], _, _, _, h => rfl
  | _ :: _, _, _, .nil, h => rfl
  | g :: ks, _, _, .cons (v := v) r rs, h => by
    change (if g = f then some _ else lkD ((ks.zip _).map fun p => (PyData.str p.1, p.2)) f) = none at h
    split at h
    · cases h
    · rename_i e
      rw [List.zip_cons_cons, List.lookup_cons, (beq_eq_false_iff_ne).mpr (fun z => e z.symm)]
      exact lkO_no rs h
theorem rp_ob {v : V} {c : Int} {kvs : List (PyData × PyData)} (h : Rp K N H v (.dict ((.none, .int c) :: kvs))) : ∃ (a oc dx : Addr) (ks : List Str) (xs : List V) (ds : List PyData), v = .ref a ∧ N a ∧ H a = some (.ins oc dx (ks.zip xs)) ∧ RpAll K N H xs ds ∧ ks.length = xs.length ∧ c = ((oc : Nat) : Int) ∧ kvs = (ks.zip ds).map fun p => (PyData.str p.1, p.2) := by
  generalize hd : PyData.dict ((.none, .int c) :: kvs) = d at h
  cases h with
  | dic n h r l z =>
    subst z
    rename_i ks xs ds
    cases hz : ks.zip ds with
    | nil => rw [hz] at hd; cases hd
    | cons a b => rw [hz] at hd; cases hd
  | obj n h r l z =>
    subst z
    injection hd with hd
    injection hd with h1 h2
    injection h1 with _ h1
    injection h1 with h1
    exact ⟨_, _, _, _, _, _, rfl, n, h, r, l, h1, h2⟩
  | _ => cases hd
/-! ### a field -/
def fldO (oc : Addr) (f : Str) : PyData → Option PyData
  | .dict ((.none, .int c) :: kvs) => if c = ((oc : Nat) : Int) then lkD kvs f else none
  | _ => none
def dOFld {oc : Addr} {on : List Str} (O : OCl C.K oc on) (f : Str) (hf : f ∈ on) (ee : DE C .fz) : DE C .fz := ⟨fun W => tFld C.K (ee.te W) f, fun ρ st => bindR (ee.ev ρ st) fun x st1 => (fldO oc f x).map fun y => (.ok y, st1), fun {s q H0 N σ H ρ st st' r} E I h W Q k => by
  rcases bindR_inv h with ⟨e, h1, rfl⟩ | ⟨x, st1, h1, h2⟩
  · exact ee.ok E I h1 W _ k.err
  · refine ee.ok E I h1 W _ fun N1 H1 e1 I1 v r1 => ?_
    cases hz : fldO oc f x with
    | none => rw [hz] at h2; cases h2
    | some y =>
      rw [hz] at h2
      cases h2
      unfold fldO at hz
      split at hz
      · split at hz
        · rename_i hc
          obtain ⟨a, oc', dx, ks, xs, ds, rfl, n, hh, rr, hl, hc2, hk⟩ := rp_ob r1
          have e2 : oc' = oc := by
            rw [hc2] at hc
            exact Int.ofNat.inj hc
          subst e2 hk
          obtain ⟨u, h5, h6⟩ := lkO_ok rr hz
          exact ⟨a, _, dx, _, u, rfl, hh, O.cls, O.na _ hf, h5, k _ _ e1 I1 _ h6⟩
        · cases hz
      · cases hz⟩
/-! ### a method -/
def noO (oc : Addr) (m : Str) : PyData → Bool
  | .dict ((.none, .int c) :: kvs) => decide (c = ((oc : Nat) : Int)) && (lkD kvs m).isNone
  | _ => false
def dOMeth (R : Tab) (i : Nat) (oc : Addr) (m : Str) (ee : DE C .fz) (t : DA C) : DE C .fz := ⟨fun W => tMeth oc m (spF C R i) [] E0 (ee.te W) (t.ta W), fun ρ st => bindR (ee.ev ρ st) fun x st1 => if noO oc m x = true then bindR (t.ev ρ st1) fun as st2 => match R i (.d x :: as) st2 with
    | some (.ok y, st3) => some (.ok y, st3)
    | _ => none
  else none, fun {s q H0 N σ H ρ st st' r} E I h W Q k => by
  rcases bindR_inv h with ⟨e, h1, rfl⟩ | ⟨x, st1, h1, h2⟩
  · exact ee.ok E I h1 W _ k.err
  · refine ee.ok E I h1 W _ fun N1 H1 e1 I1 v r1 => ?_
    split at h2
    rotate_left
    · cases h2
    rename_i hz
    unfold noO at hz
    split at hz
    · rename_i c kvs
      obtain ⟨hz1, hz2⟩ := Bool.and_eq_true_iff.mp hz
      have r1' : Rp C.K N1 H1 v (.dict ((.none, .int c) :: kvs)) := r1
      obtain ⟨a, oc', dx, ks, xs, ds, rfl, n, hh, rr, hl, hc2, hk⟩ := rp_ob r1
      have e2 : oc' = oc := by
        have hc := of_decide_eq_true hz1
        rw [hc2] at hc
        exact Int.ofNat.inj hc
      subst e2
      have hno : (ks.zip xs).lookup m = none := lkO_no rr (by rw [← hk]; exact Option.isNone_iff_eq_none.mp hz2)
      refine ⟨a, dx, _, rfl, hh, hno, ?_⟩
      rcases bindR_inv h2 with ⟨e, h3, rfl⟩ | ⟨as, st2, h3, h4⟩
      · exact t.ok (E.xt I e1) I1 h3 W _ (k.step e1).err
      · refine t.ok (E.xt I e1) I1 h3 W _ fun N2 H2 e2 I2 vs r2 => ?_
        split at h4
        · rename_i y st3 hy
          cases h4
          exact ⟨s, q, N2, _ :: as, st2, y, _, I2, by rw [List.append_nil]; exact .cons (show EnR C s q full N2 H2 (.d _) (some (.ref a)) from ⟨_, rfl, I1.rp e2 r1'⟩) r2, hy, fun v N' H' e3 I3 p => k _ _ ((e1.trans e2).trans e3) I3 v p⟩
        · cases h4
    · cases hz⟩
/-! ### an object is made -/
def spI (C : Ct) (oc : Addr) (R : Tab) (i : Nat) : Sp := fun vs H Q _ => ∃ (x dx : Addr) (H1 : Hp) (us : List V) (s : Sx) (q : Sq) (N : Addr → Prop) (as : List En) (st : Ds) (d : PyData) (st' : Ds), vs = .ref x :: us ∧ H1 x = none ∧ H1 dx = none ∧ dx ≠ x ∧ H = upd (upd H1 dx (.own x)) x (.ins oc dx []) ∧ Iv C s q N H1 st ∧ Paired (fun v n => EnR C s q full N H1 n (some v)) us as ∧
  R i as st = some (.ok d, st') ∧ ∀ N' H', Xt s N H1 N' H' → Iv C s q N' H' st' → Rp C.K N' H' (.ref x) d → Q .non H'
def dNew (R : Tab) (i : Nat) (oc : Addr) (t : DA C) : DE C .fz := ⟨fun W => tMake oc (spI C oc R i) [] E0 (t.ta W), fun ρ st => bindR (t.ev ρ st) fun as st1 => match R i as st1 with
    | some (.ok x, st2) => some (.ok x, st2)
    | _ => none, fun {s q H0 N σ H ρ st st' r} E I h W Q k => by
  rcases bindR_inv h with ⟨e, h1, rfl⟩ | ⟨as, st1, h1, h2⟩
  · exact t.ok E I h1 W _ k.err
  · refine t.ok E I h1 W _ fun N1 H1 e1 I1 vs r1 => ?_
    split at h2
    · rename_i d st2 hd
      cases h2
      intro x dx hx hdx hne
      exact ⟨x, dx, H1, vs ++ [], s, q, N1, as, st1, d, _, rfl, hx, hdx, hne, rfl, I1, by rw [List.append_nil]; exact r1, hd, fun N' H' X I2 r => ⟨rfl, k _ _ (e1.trans X) I2 _ r⟩⟩
    · cases h2⟩
/-! ### __init__: fields are set, one after the other -/
abbrev IB (C : Ct) := List (Str × DE C .fz)
def tInit (C : Ct) (W : Wc) : IB C → TS
  | [] => fun D σ H => D.nx σ H
  | [p] => sFld C.K (tVar 0) (p.2.te W) p.1
  | p :: r => tSeq (sFld C.K (tVar 0) (p.2.te W) p.1) (tInit C W r)
theorem tInit_cons {W : Wc} {p : Str × DE C .fz} {r : IB C} {D : Ends} {σ : L2.St} {H : Hp} (h : sFld C.K (tVar 0) (p.2.te W) p.1 { D with nx := tInit C W r D } σ H) : tInit C W (p :: r) D σ H := by
  cases r with
  | nil => exact h
  | cons a b => exact h
def evInit : IB C → Rho → Ds → Option (List PyData × Ds)
  | [], _, st => some ([], st)
  | p :: r, ρ, st => match p.2.ev ρ st with
    | some (.ok x, st1) => (evInit r ρ st1).map fun z => (x :: z.1, z.2)
    | _ => none
/-- no list, no closure -/
def plR : List En → Bool
  | [] => true
  | .no :: r => plR r
  | .d _ :: r => plR r
  | .st :: r => plR r
  | .scr :: r => plR r
  | .vl _ :: r => plR r
  | _ :: _ => false
def callI (oc n m : Nat) (b : IB C) (as : List En) (st : Ds) : Re PyData := if as.length + 1 = n ∧ plR as = true then match evInit b (.no :: (as ++ List.replicate m .no)) st with
  | some (xs, st1) => some (.ok (obD oc (b.map (·.1)) xs), st1)
  | none => none
  else none
inductive Pl : En → Prop
  | no : Pl .no
  | d (x) : Pl (.d x)
  | st : Pl .st
  | scr : Pl .scr
  | vl (v) : Pl (.vl v)
theorem pl_mem : ∀ {as : List En}, plR as = true → ∀ e, e ∈ as → Pl e
  | [], _, e, h => by cases h
  | a :: r, h, e, he => by
    cases a with
    | no => exact (List.mem_cons.mp he).elim (fun z => z ▸ .no) fun z => pl_mem (as := r) h e z
    | d x => exact (List.mem_cons.mp he).elim (fun z => z ▸ .d x) fun z => pl_mem (as := r) h e z
    | st => exact (List.mem_cons.mp he).elim (fun z => z ▸ .st) fun z => pl_mem (as := r) h e z
    | scr => exact (List.mem_cons.mp he).elim (fun z => z ▸ .scr) fun z => pl_mem (as := r) h e z
    | vl v => exact (List.mem_cons.mp he).elim (fun z => z ▸ .vl v) fun z => pl_mem (as := r) h e z
    | _ => cases h
mutual
theorem rp_mutI {p : Addr} {c dx : Addr} {fs : List (Str × V)} {o : HO} (hl : H p = some (.ins c dx fs)) (hq : ¬ N p) : ∀ {d : PyData} {v : V}, Rp K N H v d → Rp K N (upd H p o) v d
  | _, _, .non => .non
  | _, _, .bl b => .bl b
  | _, _, .int i => .int i
  | _, _, .str x => .str x
  | _, _, .lst n h r => .lst n (by rw [upd_ne (by rintro rfl; rw [hl] at h; cases h)]; exact h) (rps_mutI hl hq r)
  | _, _, .tup h r => .tup (by
      rcases h with ⟨q, h, hd⟩ | h
      · exact .inl ⟨q, by rw [upd_ne (by rintro rfl; rw [hl] at h; cases h)]; exact h, hd⟩
      · exact .inr h) (rps_mutI hl hq r)
  | _, _, .dic n h r l z => .dic n (by rw [upd_ne (by rintro rfl; exact hq n)]; exact h) (rps_mutI hl hq r) l z
  | _, _, .obj n h r l z => .obj n (by rw [upd_ne (by rintro rfl; exact hq n)]; exact h) (rps_mutI hl hq r) l z
theorem rps_mutI {p : Addr} {c dx : Addr} {fs : List (Str × V)} {o : HO} (hl : H p = some (.ins c dx fs)) (hq : ¬ N p) : ∀ {ds : List PyData} {vs : List V}, RpAll K N H vs ds → RpAll K N (upd H p o) vs ds
  | _, _, .nil => .nil
  | _, _, .cons h r => .cons (rp_mutI hl hq h) (rps_mutI hl hq r)
end
theorem Iv.updI (I : Iv C s q N H st) {p c dx : Addr} {fs gs : List (Str × V)} (hl : H p = some (.ins c dx fs)) (nt : Nt s p) (hn : ¬ N p) : Iv C s q N (upd H p (.ins c dx gs)) st := by
  have ke : ∀ a o, a ≠ p → H a = some o → upd H p (.ins c dx gs) a = some o := fun a o n h => by rw [upd_ne n]; exact h
  refine ⟨fun a n => ?_, I.ns, I.hs.mono (fun o h _ => ke _ o (fun z => nt.1 z.symm) h) (fun a o g h => ke a o (by rintro rfl; rw [hl] at h; cases h; cases g) h) (fun a o z h _ => ke a o (by rintro rfl; exact nt.2 z) h) (fun _ _ _ h => h) (fun _ _ h => rp_mutI hl hn h) (fun _ _ h => rps_mutI hl hn h), ?_, I.sc, I.nS, I.sS, fun m a h => I.fS m a (upd_none h), I.pn, tabs_upd I.tb hl rfl⟩
  · by_cases e : a = p
    · subst e; rw [upd_same]; exact fun z => by cases z
    · rw [upd_ne e]; exact I.na a n
  · rcases I.hq with ⟨h | ⟨o, h⟩, n⟩ | h
    · exact .inl ⟨.inl (ke _ _ (by rintro z; rw [z, hl] at h; cases h) h), n⟩
    · exact .inl ⟨.inr ⟨o, ke _ _ (by rintro z; rw [z, hl] at h; cases h) h⟩, n⟩
    · exact .inr h
theorem Ev.updI (E : Ev C s q H0 N H σ ρ) (hp : ∀ e, e ∈ ρ → Pl e) {p c dx : Addr} {fs : List (Str × V)} {o : HO} (hl : H p = some (.ins c dx fs)) (hn : ¬ N p) : Ev C s q H0 N (upd H p o) σ ρ := by
  refine ⟨E.len, fun i e u h1 h2 => ?_, fun i j e f u w a hij h1 h2 h3 h4 w1 w2 => ?_⟩
  · have z := E.at_ i e u h1 h2
    cases hp e (List.mem_of_getElem? h1) with
    | no => exact z
    | d x => obtain ⟨v, h3, h4⟩ := z; exact ⟨v, h3, rp_mutI hl hn h4⟩
    | st => exact z
    | scr => exact z
    | vl v => exact z
  · cases hp e (List.mem_of_getElem? h1) <;> exact w1.elim
theorem putF_app {f : Str} {y : V} : ∀ {on : List Str} {vs : List V}, on.length = vs.length → f ∉ on → putF f y (on.zip vs) = (on ++ [f]).zip (vs ++ [y])
  | [], [], _, _ => by simp [putF]
  | [], _ :: _, h, _ => by cases h
  | _ :: _, [], h, _ => by cases h
  | g :: on, u :: vs, h, hf => by
    have hne : g ≠ f := fun e => hf (by rw [e]; exact List.mem_cons_self)
    have := putF_app (y := y) (Nat.succ.inj h) (fun z => hf (List.mem_cons_of_mem _ z))
    rw [List.zip_cons_cons]
    show (if g = f then _ else _) = _
    rw [if_neg hne, this]
    rfl
theorem init_ok [Nw C] {oc x dx : Addr} (hcls : Cls C.K oc) {Hb : Hp} (hx0 : Hb x = none) : ∀ {b : IB C} {on : List Str} {vs : List V} {xs ys : List PyData} {N : Addr → Prop} {H : Hp} {st st' : Ds},
    (∀ f, f ∈ b.map (·.1) → NoAttr C.K oc f) → (on ++ b.map (·.1)).Nodup → (on ++ b.map (·.1)).length < 1000 → Xt s N0 Hb N H → Ev C s q H0 N H σ ρ → (∀ e, e ∈ ρ → Pl e) → Iv C s q N H st → σ[0]? = some (some (.ref x)) → H x = some (.ins oc dx (on.zip vs)) → on.length = vs.length → RpAll C.K N H vs xs → ¬ N x → Nt s x →
    evInit b ρ st = some (ys, st') → (∀ N' H', Xt s N0 Hb N' H' → Iv C s q N' H' st' → Rp C.K N' H' (.ref x) (obD oc (on ++ b.map (·.1)) (xs ++ ys)) → D.nx σ H') → ∀ ax : Ax, q.ax = ax → tInit C ⟨fun _ _ _ _ => False, ax⟩ b D σ H
  | [], on, vs, xs, ys, N, H, st, st', _, _, _, X, E, hp, I, h0, hx, hl, r, hn, nt, h, k, ax, _ => by
    cases h
    rw [List.map_nil, List.append_nil, List.append_nil] at k
    exact k (fzN N x) H (X.frz hx0) (I.frzK hx nt) (.obj (.inr rfl) hx (rps_fz r) hl rfl)
  | p :: b, on, vs, xs, ys, N, H, st, st', hna, hnd, hlen, X, E, hp, I, h0, hx, hl, r, hn, nt, h, k, ax, hax => by
    refine tInit_cons ?_
    unfold evInit at h
    split at h
    rotate_left
    · cases h
    rename_i z st1 hz
    cases hr : evInit b ρ st1 with
    | none => rw [hr] at h; cases h
    | some w =>
      rw [hr] at h
      cases h
      subst hax
      refine p.2.ok E I hz (fun _ _ _ _ => False) _ fun N2 H2 e2 I2 u r2 => ?_
      have hx2 : H2 x = some (.ins oc dx (on.zip vs)) := e2.kp _ _ nt hx
      have hn2 : ¬ N2 x := fun z => (e2.nw x z).elim hn fun z => z.elim (fun z => by rw [hx] at z; cases z) nt.2
      refine ⟨_, h0, x, oc, dx, _, rfl, hx2, hcls, hna _ (by simp), ?_, ?_⟩
      · rw [List.length_zip]
        rw [List.length_append] at hlen
        omega
      · have hf : p.1 ∉ on := fun z => by
          rw [List.map_cons, List.nodup_append] at hnd
          exact hnd.2.2 _ z _ List.mem_cons_self rfl
        rw [putF_app hl hf]
        have ea : on ++ (p :: b).map (·.1) = (on ++ [p.1]) ++ b.map (·.1) := by simp
        have X2 := X.trans e2
        refine init_ok (b := b) (on := on ++ [p.1]) (vs := vs ++ [u]) (xs := xs ++ [z]) (ys := w.1) (N := N2) hcls hx0 (fun f hf => hna f (by simp at hf ⊢; exact .inr hf)) (by rw [← ea]; exact hnd) (by rw [← ea]; exact hlen) (X2.updO hx0) ((E.xt I e2).updI hp hx2 hn2) hp (I2.updI hx2 nt hn2) h0 upd_same (by rw [List.length_append, List.length_append, hl]; rfl) ?_ hn2 nt hr (fun N' H' X' I' r' => k N' H' X' I' ?_) q.ax rfl
        · exact RpAll.app (rps_mutI hx2 hn2 (I.rps e2 r)) (.cons (rp_mutI hx2 hn2 r2) .nil)
        · rw [ea]
          have eb : xs ++ (z :: w.1) = (xs ++ [z]) ++ w.1 := by simp
          rw [eb]
          exact r'
end
section
variable {P : Program} {w : World} {C : Ct} {mg : Str → Option Value} {base : Heap} {x qual : Str} {f : Addr} {fd : FuncData} {st : Stmt} {N ps : List Str} {k m n : Nat} {R : Tab} {i : Nat} {oc : Addr} {on : List Str} {body : IB C}
theorem pl_app {as : List En} (h : plR as = true) (m : Nat) : ∀ e, e ∈ En.no :: (as ++ List.replicate m En.no) → Pl e := fun e he => by
  rcases List.mem_cons.mp he with z | z
  · exact z ▸ .no
  · rcases List.mem_append.mp z with z | z
    · exact pl_mem h e z
    · rw [List.eq_of_mem_replicate z]; exact .no
theorem init_F [Nw C] (O : OCl C.K oc on) (F : Fd C.K x qual st f fd) (S : FnScope N ps (defScope st)) (hN : N.length = ps.length + m) (hon : body.map (·.1) = on) (hnd : on.Nodup) (hR : ∀ as st, R i as st = callI oc ps.length m body as st)
    (hbody : ∀ (cdv : Value) (A : Around) (outer : List Env) (s : Shared) (H : Hp) (E : XK), Room k (A.deeper (envOfC qual (defScope st) s.heap.objs.size f cdv)) → ∀ ax : Ax,
      PSs (cxOf CX0 P w C.K mg base N qual (defScope st) f cdv A outer s H E).nox (defBody st) (tInit C ⟨fun _ _ _ _ => False, ax⟩ body)) : FnOk P w C.K mg base CX0 (k + 1) f fd ps (spI C oc R i) := by
  refine ok0 F S ?_ fun cdv A outer s H vs Q E hr hs => ?_
  · rintro vs H Q E ⟨x, dx, H1, us, s, q, N1, as, st1, d, st', rfl, _, _, _, _, I, p, h, k⟩
    rw [hR] at h
    unfold callI at h
    split at h
    · rename_i hc
      rw [List.length_cons, paired_len p]
      exact hc.1
    · cases h
  · obtain ⟨x, dx, H1, us, s1, q, N1, as, st1, d, st', rfl, hx, hdx, hne, rfl, I, p, h, k⟩ := hs
    rw [hR] at h
    unfold callI at h
    split at h
    rotate_left
    · cases h
    rename_i hc
    split at h
    rotate_left
    · cases h
    rename_i xs st2 hev
    cases h
    refine ⟨_, hbody cdv A outer s _ E hr q.ax, ?_⟩
    have S1 : Same H1 (upd (upd H1 dx (.own x)) x (.ins oc dx [])) := fun a o h => by
      rw [upd_ne (ne_of_none h hx), upd_ne (ne_of_none h hdx)]
      exact h
    have I1 := I.same S1
    have XS : Xt s1 N1 H1 N1 (upd (upd H1 dx (.own x)) x (.ins oc dx [])) := Xt.same S1
    have p2 : Paired (fun v n => EnR C s1 q full N1 (upd (upd H1 dx (.own x)) x (.ins oc dx [])) n (some v)) (.ref x :: us) (.no :: as) := .cons trivial (paired_imp (fun v n h => h.xt I XS) p)
    have E0 : Ev C s1 q (upd (upd H1 dx (.own x)) x (.ins oc dx [])) N1 (upd (upd H1 dx (.own x)) x (.ins oc dx [])) (L2.start N (.ref x :: us)) ((.no :: as) ++ List.replicate m .no) := ev_start p2 (by rw [hN, List.length_cons, paired_len p]; omega)
    have hs0 : (L2.start N (.ref x :: us))[0]? = some (some (.ref x)) := by
      unfold L2.start
      rfl
    refine init_ok (on := []) (vs := []) (xs := []) (σ := L2.start N (.ref x :: us)) (ρ := .no :: (as ++ List.replicate m .no)) O.cls hx (fun f hf => O.na f (by rw [← hon]; exact hf)) (by rw [hon]; exact hnd) (by rw [hon]; exact O.len) XS E0 (pl_app hc.2 m) I1 hs0 upd_same rfl .nil (fun z => I.na _ z hx) ⟨by rintro rfl; exact I.nf hx, I.nS Nw.h x⟩ hev (fun N' H' X' I' r' => k N' H' X' I' r') q.ax rfl
theorem fn_noneI {CX : CXT} (F : Fd C.K x qual st f fd) : FnOk P w C.K mg base CX k f fd ps (spI C oc (fun _ _ _ => none) i) :=
  ⟨fun vs H Q E ⟨_, _, _, _, _, _, _, _, _, _, _, _, _, _, _, _, _, _, h, _⟩ => (by cases h), fun _ _ _ _ _ _ _ _ _ _ _ _ _ ⟨_, _, _, _, _, _, _, _, _, _, _, _, _, _, _, _, _, _, h, _⟩ => (by cases h)⟩
end
section
variable {C : Ct} {W : Wc} {oc : Addr} {on : List Str} {O : OCl C.K oc on} {f : Str} {hf : f ∈ on} {ρ : Rho} {st : Ds} {R : Tab} {i : Nat} {e : DE C .fz} {t : DA C}
theorem te_dOFld : (dOFld O f hf e).te W = tFld C.K (e.te W) f := rfl
theorem te_dOMeth : (dOMeth R i oc f e t).te W = tMeth oc f (spF C R i) [] E0 (e.te W) (t.ta W) := rfl
theorem te_dNew : (dNew R i oc t).te W = tMake oc (spI C oc R i) [] E0 (t.ta W) := rfl
theorem tInit_1 {p : Str × DE C .fz} : tInit C W [p] = sFld C.K (tVar 0) (p.2.te W) p.1 := rfl
theorem tInit_2 {p r : Str × DE C .fz} {b : IB C} : tInit C W (p :: r :: b) = tSeq (sFld C.K (tVar 0) (p.2.te W) p.1) (tInit C W (r :: b)) := rfl
@[simp] theorem ev_dOFld : (dOFld O f hf e).ev ρ st = bindR (e.ev ρ st) fun x st1 => (fldO oc f x).map fun y => (.ok y, st1) := rfl
@[simp] theorem ev_dOMeth : (dOMeth R i oc f e t).ev ρ st = bindR (e.ev ρ st) fun x st1 => if noO oc f x = true then bindR (t.ev ρ st1) fun as st2 => okE (R i (.d x :: as) st2) else none := rfl
@[simp] theorem ev_dNew : (dNew R i oc t).ev ρ st = bindR (t.ev ρ st) fun as st1 => okE (R i as st1) := rfl
end
end De

/-! x in l, l.index(x) of data of any depth; list(range(n)), tuple(range(n)); min(a, b); a list of one's own lent to a call. -/
namespace De
open PySem PySem.Spec PyProof.Rows L2 Dx Dg
theorem _root_.L2.Room.u65 {k : Nat} {A : Around} (r : Room k A) : A.units + 65 < cLine := by have := r.unW; omega
section
variable {C : Ct} {k : Kd} {s : Sx} {q : Sq} {N0 N N1 N' : Addr → Prop} {H0 H H1 H' : Hp} {σ : L2.St} {ρ ρ' : Rho} {st st' st1 : Ds} {W : WX} {D : Ends} {fl : Fl} {K : PySem.W.Frag}
/-! ### x in l -/
theorem pk_dpS {v : V} {x : PyData} (c : SeqAt.shaped x = true) (h : Pk K s N H v x) : Dp K H v x := pk_dp (shW_of c) h
def fInL (neg : Bool) : PyData → PyData → Option PyData
  | x, .list ys => if SeqAt.shaped x = true ∧ SeqAt.shaped (.list ys) = true then some (.bool (if neg then !(ys.any fun y => PyData.eqv y x) else ys.any fun y => PyData.eqv y x)) else none
  | _, _ => none
def oInL (C : Ct) : Op2 C .fz := ⟨rInD C.K, fInL false, fun I hx hy h Q k => by
  unfold fInL at h
  split at h
  · split at h
    · rename_i z
      cases h
      exact ⟨_, _, pk_dpS z.1 hx, pk_dpS z.2 hy, z.1, z.2, k _ _ _ .refl I (.bl _)⟩
    · cases h
  · cases h⟩
def oNInL (C : Ct) : Op2 C .fz := ⟨rNotInD C.K, fInL true, fun I hx hy h Q k => by
  unfold fInL at h
  split at h
  · split at h
    · rename_i z
      cases h
      exact ⟨_, _, pk_dpS z.1 hx, pk_dpS z.2 hy, z.1, z.2, k _ _ _ .refl I (.bl _)⟩
    · cases h
  · cases h⟩
/-! ### l.index(x) -/
def ixD : List PyData → PyData → Option Nat
  | [], _ => none
  | z :: r, y => if PyData.eqv z y = true then some 0 else (ixD r y).map (· + 1)
theorem ixD_ok {y : PyData} : ∀ {ds : List PyData} {j : Nat}, ixD ds y = some j → ∃ z, ds[j]? = some z ∧ PyData.eqv z y = true ∧ ∀ (m : Nat) (z' : PyData), m < j → ds[m]? = some z' → PyData.eqv z' y = false
  | [], _, h => by cases h
  | z :: r, j, h => by
    unfold ixD at h
    split at h
    · rename_i e
      cases h
      exact ⟨z, rfl, e, fun m z' hm => absurd hm (Nat.not_lt_zero _)⟩
    · rename_i e
      cases hr : ixD r y with
      | none => rw [hr] at h; cases h
      | some i =>
        rw [hr] at h
        cases h
        obtain ⟨z2, h1, h2, h3⟩ := ixD_ok hr
        refine ⟨z2, h1, h2, fun m z' hm hz => ?_⟩
        cases m with
        | zero => cases hz; exact Bool.eq_false_iff.mpr e
        | succ m => exact h3 m z' (Nat.lt_of_succ_lt_succ hm) hz
def fIxD (ds : List PyData) (y : PyData) : Option PyData := if SeqAt.shaped (.list ds) = true ∧ SeqAt.shaped y = true then (ixD ds y).map fun j => .int (j : Nat) else none
def dLIx (a b : DE C .pk) : DE C .fz := ⟨fun W => tBM C.K "list" (rIndexD C.K) (a.te W) (tCons (b.te W) tNil), fun ρ st => bindR (a.ev ρ st) fun x st1 => match x with
  | .list ds => bindR (b.ev ρ st1) fun y st2 => (fIxD ds y).map fun z => (.ok z, st2)
  | _ => none, fun {s q H0 N σ H ρ st st' r} E I h W Q k => by
  rcases bindR_inv h with ⟨e, h1, rfl⟩ | ⟨x, st1, h1, h2⟩
  · exact a.ok E I h1 W _ k.err
  · refine a.ok E I h1 W _ fun N1 H1 e1 I1 v r1 => ?_
    split at h2
    rotate_left
    · cases h2
    rename_i ds
    refine ⟨?_, ?_⟩
    · obtain ⟨l, xs, rfl, _, h5, _⟩ := pk_l r1 I1.ns
      exact tyV_lst h5
    rcases bindR_inv h2 with ⟨e, h3, rfl⟩ | ⟨y, st2, h3, h4⟩
    · exact b.ok (E.xt I e1) I1 h3 W _ (k.step e1).err
    · refine b.ok (E.xt I e1) I1 h3 W _ fun N2 H2 e2 I2 w r2 => ?_
      cases hz : fIxD ds y with
      | none => rw [hz] at h4; cases h4
      | some z =>
        rw [hz] at h4
        cases h4
        unfold fIxD at hz
        split at hz
        · rename_i hc
          cases hj : ixD ds y with
          | none => rw [hj] at hz; cases hz
          | some j =>
            rw [hj] at hz
            cases hz
            obtain ⟨z, g1, g2, g3⟩ := ixD_ok hj
            have r1' : Pk C.K s N2 H2 v (.list ds) := PR.xt (k := .pk) (H0 := H1) I1 e2 r1
            obtain ⟨l, xs, rfl, _, _, _⟩ := pk_l r1' I2.ns
            exact ⟨l, w, y, ds, j, z, rfl, rfl, pk_dpS hc.1 r1', pk_dpS hc.2 r2, hc.1, hc.2, g1, g2, g3, k _ _ (e1.trans e2) I2 _ (.int _)⟩
        · cases hz⟩
/-! ### t.index(x), texts -/
def ixS : List Str → Str → Option Nat
  | [], _ => none
  | z :: r, y => if z = y then some 0 else (ixS r y).map (· + 1)
theorem ixS_ok {y : Str} : ∀ {ds : List Str} {j : Nat}, ixS ds y = some j → ds[j]? = some y ∧ ∀ m, m < j → ds[m]? ≠ some y
  | [], _, h => by cases h
  | z :: r, j, h => by
    unfold ixS at h
    split at h
    · rename_i e
      cases h
      exact ⟨by rw [e]; rfl, fun m hm => absurd hm (Nat.not_lt_zero _)⟩
    · rename_i e
      cases hr : ixS r y with
      | none => rw [hr] at h; cases h
      | some i =>
        rw [hr] at h
        cases h
        obtain ⟨h1, h2⟩ := ixS_ok hr
        refine ⟨h1, fun m hm => ?_⟩
        cases m with
        | zero => exact fun z => e (Option.some.inj z)
        | succ m => exact h2 m (Nat.lt_of_succ_lt_succ hm)
def fTIx (ds : List PyData) : PyData → Option PyData
  | .str y => match asStrs ds with
    | some ys => (ixS ys y).map fun j => .int (j : Nat)
    | none => none
  | _ => none
abbrev rTIx (K : PySem.W.Frag) : V → List V → Hp → VK → Prop := fun x xs H Q => ∃ p, ∃ ys : List Str, ∃ z j, x = .ref p ∧ xs = [.str z] ∧ SqT K H p (ys.map V.str) ∧ ys[j]? = some z ∧ (∀ m, m < j → ys[m]? ≠ some z) ∧ Q (.int (j : Nat)) H
def dTIx (a : DE C .fz) (b : DE C .pk) : DE C .fz := ⟨fun W => Tn.tTBM C.K (rTIx C.K) (a.te W) (tCons (b.te W) tNil), fun ρ st => bindR (a.ev ρ st) fun x st1 => match x with
  | .tuple ds => bindR (b.ev ρ st1) fun y st2 => (fTIx ds y).map fun z => (.ok z, st2)
  | _ => none, fun {s q H0 N σ H ρ st st' r} E I h W Q k => by
  rcases bindR_inv h with ⟨e, h1, rfl⟩ | ⟨x, st1, h1, h2⟩
  · exact a.ok E I h1 W _ k.err
  · refine a.ok E I h1 W _ fun N1 H1 e1 I1 v r1 => ?_
    split at h2
    rotate_left
    · cases h2
    rename_i ds
    have r1 : Rp C.K N1 H1 v (.tuple ds) := r1
    refine ⟨?_, ?_⟩
    · obtain ⟨p, xs, rfl, h5, _⟩ := r1.tup_ofN
      exact ⟨p, xs, rfl, h5⟩
    rcases bindR_inv h2 with ⟨e, h3, rfl⟩ | ⟨y, st2, h3, h4⟩
    · exact b.ok (E.xt I e1) I1 h3 W _ (k.step e1).err
    · refine b.ok (E.xt I e1) I1 h3 W _ fun N2 H2 e2 I2 w r2 => ?_
      cases hz : fTIx ds y with
      | none => rw [hz] at h4; cases h4
      | some z =>
        rw [hz] at h4
        cases h4
        unfold fTIx at hz
        split at hz
        · rename_i y
          split at hz
          · rename_i ys hys
            cases hj : ixS ys y with
            | none => rw [hj] at hz; cases hz
            | some j =>
              rw [hj] at hz
              cases hz
              obtain ⟨g1, g2⟩ := ixS_ok hj
              obtain ⟨p, xs, rfl, h5, h6⟩ := (I1.rp e2 r1).tup_of
              cases pk_s r2
              rw [asStrs_rp h6 hys] at h5
              exact ⟨p, ys, y, j, rfl, rfl, h5, g1, g2, k _ _ (e1.trans e2) I2 _ (.int _)⟩
          · cases hz
        · cases hz⟩
/-! ### list(range(n)), tuple(range(n)) -/
theorem rg_ok {n : Int} (h : n.natAbs ≤ 100000) : RgOk 0 n := ⟨by omega, by omega, by omega, by omega, by omega⟩
theorem rg_all {n : Int} {N : Addr → Prop} {H : Hp} : RpAll K N H (rgV 0 n) (rngD 0 n.toNat) := by
  unfold rgV rngD
  rw [Int.sub_zero]
  exact rps_map fun i => .int _
def dLRg [Nw C] (a : DE C .pk) : DE C .nw := ⟨fun W => tLstRg (tRg1 (a.te W)), fun ρ st => bindR (a.ev ρ st) fun x st1 => match x with
  | .int n => if n.natAbs ≤ 100000 then some (.ok (.list (rngD 0 n.toNat)), st1) else none
  | _ => none, fun {s q H0 N σ H ρ st st' r} E I h W Q k => by
  rcases bindR_inv h with ⟨e, h1, rfl⟩ | ⟨x, st1, h1, h2⟩
  · exact a.ok E I h1 W _ k.err
  · refine a.ok E I h1 W _ fun N1 H1 e1 I1 v r1 => ?_
    split at h2
    · rename_i n
      split at h2
      · rename_i hn
        cases h2
        cases pk_i r1
        exact ⟨n, rfl, rg_ok hn, fun p hp => k _ _ (e1.trans (Xt.new hp)) (I1.new hp) _ ((nw_of I1 hp rg_all).up fun a z => e1.free z)⟩
      · cases h2
    · cases h2⟩
def dTRg (a : DE C .pk) : DE C .fz := ⟨fun W => Tn.tTupRgN (tRg1 (a.te W)), fun ρ st => bindR (a.ev ρ st) fun x st1 => match x with
  | .int n => if n.natAbs ≤ 100000 then some (.ok (.tuple (rngD 0 n.toNat)), st1) else none
  | _ => none, fun {s q H0 N σ H ρ st st' r} E I h W Q k => by
  rcases bindR_inv h with ⟨e, h1, rfl⟩ | ⟨x, st1, h1, h2⟩
  · exact a.ok E I h1 W _ k.err
  · refine a.ok E I h1 W _ fun N1 H1 e1 I1 v r1 => ?_
    split at h2
    · rename_i n
      split at h2
      · rename_i hn
        cases h2
        cases pk_i r1
        exact ⟨n, rfl, rg_ok hn, fun p o hp ho => k _ _ (e1.trans (Xt.new hp)) (I1.new hp) _ (tp_of I1 hp ho rg_all)⟩
      · cases h2
    · cases h2⟩
/-- min(a, b) -/
def dMin (C : Ct) (a b : DE C .pk) : DE C .fz := ⟨fun W => tCB (fun xs H Q => ∃ i j, xs = [.int i, .int j] ∧ Q (.int (if j < i then j else i)) H) (tCons (a.te W) (tCons (b.te W) tNil)), fun ρ st => bindR (a.ev ρ st) fun x st1 => bindR (b.ev ρ st1) fun y st2 => (fI (fun _ _ => true) (fun i j => .int (if j < i then j else i)) x y).map fun z => (.ok z, st2), fun {s q H0 N σ H ρ st st' r} E I h W Q k => by
  rcases bindR_inv h with ⟨e, h1, rfl⟩ | ⟨x, st1, h1, h2⟩
  · exact a.ok E I h1 W _ k.err
  · refine a.ok E I h1 W _ fun N1 H1 e1 I1 v r1 => ?_
    rcases bindR_inv h2 with ⟨e, h3, rfl⟩ | ⟨y, st2, h3, h4⟩
    · exact b.ok (E.xt I e1) I1 h3 W _ (k.step e1).err
    · refine b.ok (E.xt I e1) I1 h3 W _ fun N2 H2 e2 I2 w r2 => ?_
      cases hz : fI (fun _ _ => true) (fun i j => .int (if j < i then j else i)) x y with
      | none => rw [hz] at h4; cases h4
      | some z =>
        rw [hz] at h4
        cases h4
        obtain ⟨i, j, rfl, rfl, _, rfl⟩ := fI_inv hz
        cases pk_i r1
        cases pk_i r2
        exact ⟨i, j, rfl, k _ _ (e1.trans e2) I2 _ (.int _)⟩⟩
/-! ### a list of one's own lent -/
theorem Iv.back (I0 : Iv C s q N H st1) (X : Xt s N1 H N' H') (I : Iv C s q N' H' st') (hf : st'.fs.isEmpty = true) : Iv C s q N H' st' := by
  refine ⟨fun a n => X.ks a (I0.na a n), I0.ns, ?_, I.hq, I.sc, I.nS, I.sS, I.fS, I.pn, I.tb⟩
  have h := I.hs
  have e : st'.fs = [] := List.isEmpty_iff.mp hf
  unfold StO at h ⊢
  split at h
  · exact h
  · obtain ⟨vs, h1, h2, h3⟩ := h
    rw [e] at h3 ⊢
    cases h3
    exact ⟨[], h1, h2, .nil⟩
theorem Xt.back [Nw C] (I0 : Iv C s q N H st1) (X : Xt s N1 H N' H') : Xt s N H N H' := ⟨X.kp0, fun a _ z => (I0.nS Nw.h a z).elim, X.ks, fun _ h => h, fun _ h => .inl h⟩
theorem rp_flD {v : V} {x : PyData} (h : Rp K N' H' v x) (f : flD x = true) : Rp K N H' v x := by
  cases h with
  | non => exact .non
  | bl b => exact .bl b
  | int i => exact .int i
  | str x => exact .str x
  | _ => cases f
theorem Ev.frz1 {ds : List PyData} (E : Ev C s q H0 N H σ ρ) (I : Iv C s q N H st) {i : Nat} (hi : ρ[i]? = some (.own ds)) : ∃ l, Ev C s q H0 (fzN N l) H σ (ρ.set i (.d (.list ds))) ∧ Iv C s q (fzN N l) H st := by
  obtain ⟨l, xs, ho, h0, w⟩ := E.own hi
  have no : ∀ (j : Nat) (e : En) (u : Option V), j ≠ i → ρ[j]? = some e → σ[j]? = some u → ¬ Ow H e u l := fun j e u hj h1 h2 z => E.dis j i e _ u _ l hj h1 hi h2 ho z rfl
  have self : ∀ {y : En}, (ρ.set i (.d (.list ds)))[i]? = some y → y = .d (.list ds) := fun {y} h => by
    rw [List.getElem?_set_self (List.getElem?_eq_some_iff.mp hi).1] at h
    cases h
    rfl
  refine ⟨l, ⟨by rw [List.length_set]; exact E.len, fun j e u h1 h2 => ?_, fun j1 j2 e1 e2 u1 u2 a hj h1 h2 h3 h4 w1 w2 => ?_⟩, I.frz w.hl w.ls⟩
  · by_cases hj : i = j
    · subst hj
      cases self h1
      rw [ho] at h2
      cases h2
      exact ⟨_, rfl, .lst (.inr rfl) w.hl (rps_fz w.r)⟩
    · rw [List.getElem?_set_ne hj] at h1
      exact (E.at_ j e u h1 h2).fz w.hl (no j e u (fun z => hj z.symm) h1 h2)
  · by_cases k1 : i = j1
    · subst k1
      cases self h1
      exact w1.elim
    · by_cases k2 : i = j2
      · subst k2
        cases self h2
        exact w2.elim
      · rw [List.getElem?_set_ne k1] at h1
        rw [List.getElem?_set_ne k2] at h2
        exact E.dis j1 j2 e1 e2 u1 u2 a hj h1 h2 h3 h4 w1 w2
/-- d is worked out while slot j's list only is read -/
def dBor [Nw C] (j : Nat) (d : DE C .fz) : DE C .fz := ⟨d.te, fun ρ st => match ρ[j]? with
  | some (.own ds) => match d.ev (ρ.set j (.d (.list ds))) st with
    | some (.ok x, st') => if flD x = true ∧ st'.fs.isEmpty = true then some (.ok x, st') else none
    | _ => none
  | _ => none, fun {s q H0 N σ H ρ st st' r} E I h W Q k => by
  split at h
  · rename_i ds hj
    split at h
    · rename_i x st1 hx
      split at h
      · rename_i hc
        cases h
        obtain ⟨l, E1, I1⟩ := E.frz1 I hj
        exact d.ok E1 I1 hx W _ fun N' H' X I' v r => k N H' (Xt.back I X) (Iv.back I X I' hc.2) v (rp_flD r hc.1)
      · cases h
    · cases h
  · cases h⟩
end
section
variable {C : Ct} {W : Wc} {ρ : Rho} {st : Ds} {j : Nat}
theorem te_dLIx {a b : DE C .pk} : (dLIx a b).te W = tBM C.K "list" (rIndexD C.K) (a.te W) (tCons (b.te W) tNil) := rfl
theorem te_dTIx {a : DE C .fz} {b : DE C .pk} : (dTIx a b).te W = Tn.tTBM C.K (rTIx C.K) (a.te W) (tCons (b.te W) tNil) := rfl
@[simp] theorem ev_dTIx {a : DE C .fz} {b : DE C .pk} : (dTIx a b).ev ρ st = bindR (a.ev ρ st) fun x st1 => match x with
  | .tuple ds => bindR (b.ev ρ st1) fun y st2 => retO (fTIx ds y) st2
  | _ => none := rfl
theorem te_dLRg [Nw C] {a : DE C .pk} : (dLRg a).te W = tLstRg (tRg1 (a.te W)) := rfl
theorem te_dTRg {a : DE C .pk} : (dTRg a).te W = Tn.tTupRgN (tRg1 (a.te W)) := rfl
theorem te_dMin {a b : DE C .pk} : (dMin C a b).te W = tCB (fun xs H Q => ∃ i j, xs = [.int i, .int j] ∧ Q (.int (if j < i then j else i)) H) (tCons (a.te W) (tCons (b.te W) tNil)) := rfl
theorem te_dBor [Nw C] {d : DE C .fz} : (dBor j d).te W = d.te W := rfl
@[simp] theorem ev_dLIx {a b : DE C .pk} : (dLIx a b).ev ρ st = bindR (a.ev ρ st) fun x st1 => match x with
  | .list ds => bindR (b.ev ρ st1) fun y st2 => retO (fIxD ds y) st2
  | _ => none := rfl
@[simp] theorem ev_dLRg [Nw C] {a : DE C .pk} : (dLRg a).ev ρ st = bindR (a.ev ρ st) fun x st1 => match x with
  | .int n => if n.natAbs ≤ 100000 then some (.ok (.list (rngD 0 n.toNat)), st1) else none
  | _ => none := rfl
@[simp] theorem ev_dTRg {a : DE C .pk} : (dTRg a).ev ρ st = bindR (a.ev ρ st) fun x st1 => match x with
  | .int n => if n.natAbs ≤ 100000 then some (.ok (.tuple (rngD 0 n.toNat)), st1) else none
  | _ => none := rfl
@[simp] theorem ev_dMin {a b : DE C .pk} : (dMin C a b).ev ρ st = bindR (a.ev ρ st) fun x st1 => bindR (b.ev ρ st1) fun y st2 => retO (fI (fun _ _ => true) (fun i j => .int (if j < i then j else i)) x y) st2 := rfl
@[simp] theorem ev_dBor [Nw C] {d : DE C .fz} {ds : List PyData} (h : ρ[j]? = some (.own ds)) : (dBor j d).ev ρ st = match d.ev (ρ.set j (.d (.list ds))) st with
    | some (.ok x, st') => if flD x = true ∧ st'.fs.isEmpty = true then some (.ok x, st') else none
    | _ => none := by simp only [dBor, h]
end
end De

/-! A list of data that callees change and give back: it stands at the object's place (C.lm). -/
namespace De
open PySem PySem.Spec PyProof.Rows L2 Dx Dg
class Lm (C : Ct) : Prop where
  h : C.lm = true
instance {K : PySem.W.Frag} {fam md : Bool} {ca : Str → Addr} {fs : Str → V → List (Str × V)} {oc : Addr} {on : List Str} {T : List NdefX.NTab} {wf : Nat → List (Str × Addr) → Addr → Fv.FW} {nm : Nat → List (Str × NameKind)} {fu : Nat → List Str} {ji : List Nat} : Lm ⟨K, fam, ca, fs, oc, on, md, T, wf, nm, fu, ji, true⟩ := ⟨rfl⟩
def onlyDs : List Fld → Option (List PyData)
  | [] => some []
  | .d x :: r => (onlyDs r).map (x :: ·)
  | _ :: _ => none
@[simp] theorem onlyDs_map : ∀ ds : List PyData, onlyDs (ds.map .d) = some ds
  | [] => rfl
  | x :: r => by rw [List.map_cons, onlyDs, onlyDs_map r]; rfl
theorem onlyDs_eq : ∀ {fs : List Fld} {ds : List PyData}, onlyDs fs = some ds → fs = ds.map .d
  | [], _, h => by cases h; rfl
  | .d x :: r, _, h => by
    unfold onlyDs at h
    cases hr : onlyDs r with
    | none => rw [hr] at h; cases h
    | some es =>
      rw [hr] at h
      cases h
      rw [onlyDs_eq hr]
      rfl
  | .w _ :: _, _, h => by cases h
section
variable {C : Ct} {k : Kd} {s : Sx} {q : Sq} {N0 N N1 N' : Addr → Prop} {H0 H H1 H' : Hp} {σ : L2.St} {ρ ρ' : Rho} {st st' st1 : Ds} {W : WX} {D : Ends} {fl : Fl} {K : PySem.W.Frag}
theorem fs_rps {o : Option Addr} : ∀ {ds : List PyData} {vs : List V}, Paired (FldR K s o N H) vs (ds.map .d) → RpAll K N H vs ds
  | [], _, .nil => .nil
  | _ :: _, _, .cons h r => .cons h (fs_rps r)
theorem fs_pair {o : Option Addr} : ∀ {ds : List PyData} {vs : List V}, RpAll K N H vs ds → Paired (FldR K s o N H) vs (ds.map .d)
  | _, _, .nil => .nil
  | _, _, .cons h r => .cons h (fs_pair r)
theorem Iv.obl [Lm C] (I : Iv C s q N H st) {dx : Addr} (h : q.ob = some dx) {ds : List PyData} (hd : onlyDs st.fs = some ds) : ∃ vs, H s.a = some (.lst vs) ∧ RpAll C.K N H vs ds := by
  have z := I.hs
  unfold StO at z
  rw [h] at z
  obtain ⟨vs, z1, z2, z3⟩ := z
  rw [Lm.h (C := C)] at z1
  rw [onlyDs_eq hd] at z3
  exact ⟨vs, z1, fs_rps z3⟩
theorem StO.ofl [Lm C] {dx : Addr} (h : q.ob = some dx) {vs : List V} {ds : List PyData} (h1 : H s.a = some (.lst vs)) (hf : st.fs = ds.map .d) (h3 : RpAll C.K N H vs ds) : StO C s q N H st := by
  unfold StO
  rw [h, hf]
  refine ⟨vs, ?_, .inl Lm.h, fs_pair h3⟩
  rw [Lm.h (C := C)]
  exact h1
theorem rps_atS (I : Iv C s q N H st) {o : HO} {vs : List V} {ds : List PyData} (h : RpAll C.K N H vs ds) : RpAll C.K N (upd H s.a o) vs ds := I.rps (Xt.atS I) h
/-- x in the list, x not in the list -/
def dInS [Lm C] (neg : Bool) (j : Nat) (a : DE C .fz) : DE C .fz := ⟨fun W => tOp (if neg then rNotInD C.K else rInD C.K) (a.te W) (tVar j), fun ρ st => match ρ[j]? with
  | some .ob => bindR (a.ev ρ st) fun x st1 => match onlyDs st1.fs with
    | some ds => (fInL neg x (.list ds)).map fun z => (.ok z, st1)
    | none => none
  | _ => none, fun {s q H0 N σ H ρ st st' r} E I h W Q k => by
  split at h
  rotate_left
  · cases h
  rename_i hj
  obtain ⟨o, ho, rfl, dx, hx⟩ := E.get hj
  rcases bindR_inv h with ⟨e, h1, rfl⟩ | ⟨x, st1, h1, h2⟩
  · exact a.ok E I h1 W _ k.err
  · refine a.ok E I h1 W _ fun N1 H1 e1 I1 v r1 => ⟨_, ho, ?_⟩
    split at h2
    rotate_left
    · cases h2
    rename_i ds hd
    obtain ⟨vs, g1, g2⟩ := I1.obl hx hd
    cases hz : fInL neg x (.list ds) with
    | none => rw [hz] at h2; cases h2
    | some z =>
      rw [hz] at h2
      cases h2
      change (if SeqAt.shaped x = true ∧ SeqAt.shaped (.list ds) = true then some (PyData.bool (if neg then !(ds.any fun y => PyData.eqv y x) else ds.any fun y => PyData.eqv y x)) else none) = some z at hz
      split at hz
      · rename_i hc
        cases hz
        have d1 : Dp C.K H1 v x := Rp.dp (SeqAt.canLay_of_shaped hc.1) r1
        have d2 : Dp C.K H1 (.ref s.a) (.list ds) := .lst (SqL.of g1) (RpAll.dp (by simpa only [PyData.canLay0] using SeqAt.canLay_of_shaped hc.2) g2)
        cases neg with
        | true => exact ⟨_, _, d1, d2, hc.1, hc.2, k _ _ e1 I1 _ (.bl _)⟩
        | false => exact ⟨_, _, d1, d2, hc.1, hc.2, k _ _ e1 I1 _ (.bl _)⟩
      · cases hz⟩
/-- l.append(a) -/
def sSlApp [Lm C] (j : Nat) (a : DE C .fz) : DSt C := ⟨fun W => tDrop (tBM C.K "list" rAppend (tVar j) (tCons (a.te W) tNil)), fun ρ st => match ρ[j]?, onlyDs st.fs with
  | some .ob, some _ => bindS (a.ev ρ st) ρ fun x st1 => match onlyDs st1.fs with
    | some ds => if ds.length < 100000 then some (.nx, ρ, { st1 with fs := (ds ++ [x]).map .d }) else none
    | none => none
  | _, _ => none, fun {s q N0 H0 N H σ ρ ρ' st st' fl} v h W D k => by
  split at h
  rotate_left
  · cases h
  rename_i ds0 hj hd0
  obtain ⟨o, ho, rfl, dx, hx⟩ := v.E.get hj
  obtain ⟨vs0, f1, f2⟩ := v.I.obl hx hd0
  refine ⟨_, ho, tyV_lst f1, ?_⟩
  rcases bindS_inv h with ⟨e, h1, rfl, rfl⟩ | ⟨x, st1, h1, h2⟩
  · exact a.ok v.E v.I h1 W _ (SOut.out v k)
  · refine a.ok v.E v.I h1 W _ fun N1 H1 e1 I1 u r1 => ?_
    split at h2
    rotate_left
    · cases h2
    rename_i ds hd
    split at h2
    rotate_left
    · cases h2
    rename_i hz
    cases h2
    obtain ⟨vs, g1, g2⟩ := I1.obl hx hd
    have v1 := v.xt e1 I1
    have I2 : Iv C s q N1 (upd H1 s.a (.lst (vs ++ [u]))) { st1 with fs := (ds ++ [x]).map .d } := I1.atS (StO.ofl hx upd_same rfl ((rps_atS I1 g2).app (.cons (I1.rp (Xt.atS I1) r1) .nil))) rfl rfl
    exact ⟨s.a, vs, u, rfl, rfl, g1, by rw [g2.length]; exact sz_lt hz, k _ _ _ (v1.xt (Xt.atS I1) I2) ((e1.trans (Xt.atS I1)).fx v.I)⟩⟩
/-! ### calls that change the list and give it back -/
def spS (C : Ct) (R : Tab) (f : Nat) : Sp := fun vs H Q _ => ∃ (s : Sx) (q : Sq) (N : Addr → Prop) (as : List En) (st st' : Ds), Iv C s q N H st ∧ Paired (fun v n => EnR C s q full N H n (some v)) vs as ∧ R f as st = some (.ok .none, st') ∧ ∀ N' H', Xt s N H N' H' → Iv C s q N' H' st' → Q (.ref s.a) H'
def sCallS (R : Tab) (f : Nat) (j : Nat) (a : DE C .fz) : DSt C := ⟨fun W => tDrop (tCall (spS C R f) [] E0 (tCons (a.te W) (tCons (tVar j) tNil))), fun ρ st => match ρ[j]? with
  | some .ob => bindS (a.ev ρ st) ρ fun x st1 => match R f [.d x, .ob] st1 with
    | some (.ok .none, st2) => some (.nx, ρ, st2)
    | _ => none
  | _ => none, fun {s q N0 H0 N H σ ρ ρ' st st' fl} v h W D k => by
  split at h
  rotate_left
  · cases h
  rename_i hj
  obtain ⟨o, ho, rfl, dx, hx⟩ := v.E.get hj
  rcases bindS_inv h with ⟨e, h1, rfl, rfl⟩ | ⟨x, st1, h1, h2⟩
  · exact a.ok v.E v.I h1 W _ (SOut.out v k)
  · refine a.ok v.E v.I h1 W _ fun N1 H1 e1 I1 u r1 => ⟨_, ho, ?_⟩
    split at h2
    · rename_i st2 hR
      cases h2
      exact ⟨s, q, N1, [.d x, .ob], st1, _, I1, .cons ⟨u, rfl, r1⟩ (.cons (show EnR C s q full N1 H1 .ob (some (.ref s.a)) from ⟨rfl, dx, hx⟩) .nil), hR, fun N' H' e2 I2 => k _ _ _ (v.xt (e1.trans e2) I2) ((e1.trans e2).fx v.I)⟩
    · cases h2⟩
/-- f(a, []) -/
def dSlNew [Lm C] [Nw C] (R : Tab) (f : Nat) (a : DE C .fz) : DE C .nw := ⟨fun W => tCall (spS C R f) [] E0 (tCons (a.te W) (tCons (tLst tNil) tNil)), fun ρ st => bindR (a.ev ρ st) fun x st1 => match R f [.d x, .ob] ⟨st1.scr, [], [], false, []⟩ with
    | some (.ok .none, st2) => match onlyDs st2.fs with
      | some ds => some (.ok (.list ds), st1)
      | none => none
    | _ => none, fun {s q H0 N σ H ρ st st' r} E I h W Q k => by
  rcases bindR_inv h with ⟨e, h1, rfl⟩ | ⟨x, st1, h1, h2⟩
  · exact a.ok E I h1 W _ k.err
  · refine a.ok E I h1 W _ fun N1 H1 e1 I1 u r1 => ?_
    refine ⟨Nat.zero_le _, fun l hl => ?_⟩
    split at h2
    rotate_left
    · cases h2
    rename_i st2 hR
    split at h2
    rotate_left
    · cases h2
    rename_i ds hd
    cases h2
    let s2 : Sx := ⟨l, fun _ => False⟩
    let q2 : Sq := { q with ob := some 0, wl := none }
    let H2 : Hp := upd H1 l (.lst [])
    have S2 : ∀ a o, H1 a = some o → H2 a = some o := fun a o h => by
      show upd _ _ _ _ = _
      rw [upd_ne (ne_of_none h hl)]
      exact h
    have F2 : ∀ a, H2 a = none → H1 a = none := fun a h => upd_none h
    have I2 : Iv C s2 q2 N1 H2 ⟨st'.scr, [], [], false, []⟩ := by
      refine ⟨fun a n z => I1.na a n (F2 a z), fun n => I1.na _ n hl, StO.ofl (dx := 0) (vs := []) (ds := []) rfl upd_same rfl .nil, ?_, I1.sc, fun _ _ z => z, fun z => z, fun m => (by rw [Nw.h (C := C)] at m; cases m), rfl, fun p hp => (I1.tb p hp).ext S2⟩
      rcases I1.hq with ⟨h | ⟨o, h⟩, n⟩ | h
      · exact .inl ⟨.inl (S2 _ _ h), ne_of_none h hl, fun z => z⟩
      · exact .inl ⟨.inr ⟨o, S2 _ _ h⟩, ne_of_none h hl, fun z => z⟩
      · exact .inr h
    have XS : Xt s N1 H1 N1 H2 := Xt.same S2
    refine ⟨s2, q2, N1, [.d x, .ob], _, st2, I2, .cons ⟨u, rfl, I1.rp XS r1⟩ (.cons (show EnR C s2 q2 full N1 H2 .ob (some (.ref l)) from ⟨rfl, 0, rfl⟩) .nil), hR, fun N3 H3 X3 I3 => ?_⟩
    obtain ⟨X6, I6⟩ := ob_back I1 (fun a o h t => X3.kp a o ⟨ne_of_none h hl, fun z => z⟩ (S2 a o h) t) (fun a h => X3.ks a fun z => h (F2 a z)) I3.na X3.nn (fun a h => by
      rcases X3.nw a h with h | h | h
      · exact .inl h
      · exact .inr (F2 a h)
      · exact h.elim) I3.tb
    obtain ⟨vs, g1, g2⟩ := I3.obl (q := q2) rfl hd
    refine k N3 H3 (e1.trans X6) I6 (.ref l) ⟨l, vs, ds, rfl, rfl, e1.free hl, ⟨I3.ns, I1.nt hl, g1, g2⟩⟩⟩
def callS {C : Ct} (n m j : Nat) (b : DSt C) (as : List En) (st : Ds) : Re PyData := if as.length = n then match b.ev (as ++ List.replicate m .no) st with
  | some (.nx, ρ', st1) => match ρ'[j]? with
    | some .ob => some (.ok .none, st1)
    | _ => none
  | _ => none
  else none
end
section
variable {P : Program} {w : World} {C : Ct} {mg : Str → Option Value} {base : Heap} {x qual : Str} {f : Addr} {fd : FuncData} {st : Stmt} {N ps : List Str} {k m n j : Nat} {R : Tab} {i : Nat} {body : DSt C}
theorem cl_S (F : Fd C.K x qual st f fd) (S : FnScope N ps (defScope st)) (hm : mg x = some (.ref f)) (b : Binds C.K fd ps []) (hN : N.length = ps.length + m) (hR : ∀ as st, R i as st = callS ps.length m j body as st)
    (hbody : ∀ (cdv : Value) (A : Around) (outer : List Env) (s : Shared) (H : Hp) (E : XK), Room k (A.deeper (envOfC qual (defScope st) s.heap.objs.size f cdv)) → ∀ ax : Ax,
      PSs (cxOf CX0 P w C.K mg base N qual (defScope st) f cdv A outer s H E).nox (defBody st) (tSeq (body.ts ⟨fun _ _ _ _ => False, ax⟩) (tRet (tVar j)))) : Cl P w C.K mg base CX0 (k + 1) x ps (spS C R i) := by
  refine Cl.mk' F hm (ok0 F S ?_ fun cdv A outer s H vs Q E hr hs => ?_) b
  · rintro vs H Q E ⟨s, q, N1, as, st1, st', I, p, h, k⟩
    rw [hR] at h
    unfold callS at h
    split at h
    · rename_i hl
      rw [paired_len p]
      exact hl
    · cases h
  · obtain ⟨s1, q, N1, as, st1, st', I, p, h, k⟩ := hs
    rw [hR] at h
    unfold callS at h
    split at h
    rotate_left
    · cases h
    rename_i hl
    split at h
    rotate_left
    · cases h
    rename_i ρ' st2 hb
    split at h
    rotate_left
    · cases h
    rename_i hj
    cases h
    refine ⟨_, hbody cdv A outer s H E hr q.ax, ?_⟩
    refine body.ok (N0 := N1) (H0 := H) (s := s1) (q := q) ⟨ev_start p (by rw [hN, paired_len p, hl]), I, .refl, fun _ => trivial, I.hq⟩ hb (fun _ _ _ _ => False) _ fun σ' N' H' v _ => ?_
    obtain ⟨o, ho, rfl, _⟩ := v.E.get hj
    exact ⟨_, ho, k _ _ v.X v.I⟩
theorem cl_noneS {CX : CXT} (F : Fd C.K x x st f fd) (hm : mg x = some (.ref f)) (b : Binds C.K fd ps []) : Cl P w C.K mg base CX k x ps (spS C (fun _ _ _ => none) i) :=
  Cl.mk' F hm ⟨fun vs H Q E ⟨_, _, _, _, _, _, _, _, h, _⟩ => (by cases h), fun _ _ _ _ _ _ _ _ _ _ _ _ _ ⟨_, _, _, _, _, _, _, _, h, _⟩ => (by cases h)⟩ b
end
section
variable {C : Ct} {W : Wc} {ρ : Rho} {st : Ds} {j f : Nat} {a : DE C .fz} {R : Tab}
theorem te_dInS [Lm C] : (dInS false j a).te W = tOp (rInD C.K) (a.te W) (tVar j) := rfl
theorem te_dNInS [Lm C] : (dInS true j a).te W = tOp (rNotInD C.K) (a.te W) (tVar j) := rfl
theorem ts_sSlApp [Lm C] : (sSlApp j a).ts W = tDrop (tBM C.K "list" rAppend (tVar j) (tCons (a.te W) tNil)) := rfl
theorem ts_sCallS : (sCallS R f j a).ts W = tDrop (tCall (spS C R f) [] E0 (tCons (a.te W) (tCons (tVar j) tNil))) := rfl
theorem te_dSlNew [Lm C] [Nw C] : (dSlNew R f a).te W = tCall (spS C R f) [] E0 (tCons (a.te W) (tCons (tLst tNil) tNil)) := rfl
theorem ev_dInS [Lm C] {neg : Bool} (h : ρ[j]? = some .ob) : (dInS neg j a).ev ρ st = bindR (a.ev ρ st) fun x st1 => match onlyDs st1.fs with
    | some ds => retO (fInL neg x (.list ds)) st1
    | none => none := by
  simp only [dInS, h]
  rfl
theorem es_sSlApp [Lm C] (h : ρ[j]? = some .ob) {ds0 : List PyData} (hd : onlyDs st.fs = some ds0) : (sSlApp j a).ev ρ st = bindS (a.ev ρ st) ρ fun x st1 => match onlyDs st1.fs with
    | some ds => if ds.length < 100000 then some (.nx, ρ, { st1 with fs := (ds ++ [x]).map .d }) else none
    | none => none := by simp only [sSlApp, h, hd]
theorem es_sCallS (h : ρ[j]? = some .ob) : (sCallS R f j a).ev ρ st = bindS (a.ev ρ st) ρ fun x st1 => match R f [.d x, .ob] st1 with
    | some (.ok .none, st2) => some (.nx, ρ, st2)
    | _ => none := by
  simp only [sCallS, h]
theorem ev_dSlNew [Lm C] [Nw C] : (dSlNew R f a).ev ρ st = bindR (a.ev ρ st) fun x st1 => match R f [.d x, .ob] ⟨st1.scr, [], [], false, []⟩ with
    | some (.ok .none, st2) => match onlyDs st2.fs with
      | some ds => some (.ok (.list ds), st1)
      | none => none
    | _ => none := rfl
end
end De

/-! ranges; places in lists -/
namespace De
open PySem PySem.Spec PyProof.Rows L2 Dx Dg
/-- the rest of a range -/
def rest (k m : Nat) : List PyData := (List.range' k m).map fun i => .int (i : Nat)
theorem rest_rng (n : Nat) : rngD 0 n = rest 0 n := by
  unfold rngD rest
  rw [List.range_eq_range']
  refine List.map_congr_left fun i _ => ?_
  rw [Int.zero_add]
theorem rest_cons (k m : Nat) : rest k (m + 1) = .int (k : Nat) :: rest (k + 1) m := by
  unfold rest
  rw [List.range'_succ]
  rfl
theorem rest_nil (k : Nat) : rest k 0 = [] := rfl
theorem at_in {α : Type} {xs : List α} {i : Int} (h0 : 0 ≤ i) (h1 : i < xs.length) : ∃ v, atI xs i = some v := by
  have h2 : i.toNat < xs.length := by omega
  refine ⟨xs[i.toNat], ?_⟩
  have := atI_nat (xs := xs) (n := i.toNat) (x := xs[i.toNat]) (List.getElem?_eq_getElem h2)
  rw [Int.toNat_of_nonneg h0] at this
  exact this
end De

/-! Where a lambda stands in a def's text. -/
namespace Pth
open PySem
def noneS : Stmt := .Pass ⟨0, 0, 0, 0⟩
def noneE : Expr := .Tuple [] 0 ⟨0, 0, 0, 0⟩
def at_ (l : List Stmt) (i : Nat) : Stmt := l.getD i noneS
def val : Stmt → Expr
  | .Return (some e) _ => e
  | .Assign _ e _ => e
  | .AugAssign _ _ e _ => e
  | .Expr e _ => e
  | .If e _ _ _ => e
  | .While e _ _ _ => e
  | .For _ e _ _ _ => e
  | _ => noneE
def bod : Stmt → List Stmt
  | .If _ b _ _ => b
  | .For _ _ b _ _ => b
  | .While _ b _ _ => b
  | .Try b _ _ _ _ => b
  | _ => []
def els : Stmt → List Stmt
  | .If _ _ b _ => b
  | _ => []
def arg (i : Nat) : Expr → Expr
  | .Call _ es _ _ => es.getD i noneE
  | .Tuple es _ _ => es.getD i noneE
  | .List es _ => es.getD i noneE
  | .Compare l _ es _ => match i with
    | 0 => l
    | j + 1 => es.getD j noneE
  | .BoolOp _ es _ => es.getD i noneE
  | .Subscript e _ _ => e
  | .UnaryOp _ e _ => e
  | _ => noneE
def kwv (i : Nat) : Expr → Expr
  | .Call _ _ ks _ => match ks[i]? with
    | some k => k.value
    | none => noneE
  | _ => noneE
def lP : Expr → Arguments
  | .Lambda a _ _ _ => a
  | _ => ⟨[], [], none, [], [], none, []⟩
def lB : Expr → Expr
  | .Lambda _ b _ _ => b
  | _ => noneE
def lS : Expr → Scope
  | .Lambda _ _ s _ => s
  | _ => ⟨.function, [], false, false, []⟩
/-- looks -/
def nsc {N ps fr : List Str} {sc : Scope} (h : NdefX.nscB N ps fr sc = true) : NdefX.NScope N ps fr sc := NdefX.nscope_by h
end Pth

/-! The head's facts with own exceptions, where defs make closures: their tables of code objects stand empty. -/
namespace Hq
open PySem PySem.Spec PyProof.Rows L2 He ExQ NdefX LamX
abbrev AlQT : Type := AlQ × Bool
def frK (n : Nat) (g : Addr → Option Obj) : PySem.W.Frag := frT g (cStatics :: asD g n)
def obsQT (n : Nat) (fa : List Fa) (fn : List DefD) (is : List IniD) (file : Str) (ex : PySem.W.Frag → Bool) (tf : List Defn) (g : Addr → Option Obj) : AlQT := (obsQ fa fn is file ex (frK n g), tabsB g tf (frK n g))
structure SaysQT (fa : List Fa) (fn : List DefD) (is : List IniD) (file : Str) (ex : PySem.W.Frag → Bool) (tf : List Defn) (h : Heap) (K : PySem.W.Frag) : Prop where
  q : SaysQ fa fn is file ex K
  hd : ∀ p, p ∈ tf → PySem.W.codeHdIn K (cT K p).1 (cT K p).2 = true
  out : ∀ p, p ∈ tf → K.lookup (cT K p).2 = none
  emp : ∀ p, p ∈ tf → h.get? (cT K p).2 = some { cls := .none, data := .fields #[] }
theorem saysQT_of {n : Nat} {fa : List Fa} {fn : List DefD} {is : List IniD} {file : Str} {ex : PySem.W.Frag → Bool} {tf : List Defn} {h : Heap} (e : obsQT n fa fn is file ex tf h.get? = (valQ fn is, true)) : SaysQT fa fn is file ex tf h (frK n h.get?) := by
  have e1 : obsQ fa fn is file ex (frK n h.get?) = valQ fn is := congrArg (fun z : AlQT => z.1) e
  have e2 : tabsB h.get? tf (frK n h.get?) = true := congrArg (fun z : AlQT => z.2) e
  have look : ∀ p, p ∈ tf → PySem.W.codeHdIn (frK n h.get?) (cT (frK n h.get?) p).1 (cT (frK n h.get?) p).2 = true ∧ ∃ o, h.get? (cT (frK n h.get?) p).2 = some o ∧ emptyTab o = true := fun p hp => by
    have z := List.all_eq_true.mp e2 p hp
    obtain ⟨z1, z2⟩ := ba z
    refine ⟨z1, ?_⟩
    split at z2
    · rename_i o ho
      exact ⟨o, ho, z2⟩
    · cases z2
  refine ⟨e1, fun p hp => (look p hp).1, fun p hp => ?_, fun p hp => ?_⟩
  · obtain ⟨_, o, h1, h2⟩ := look p hp
    exact frT_none h1 h2
  · obtain ⟨_, o, h1, h2⟩ := look p hp
    rw [h1, emptyTab_eq h2]
def hookQT (n : Nat) (fa : List Fa) (fn : List DefD) (is : List IniD) (file : Str) (ex : PySem.W.Frag → Bool) (tf : List Defn) : PySem.W.Hook where
  α := AlQT
  obs := fun s => obsQT n fa fn is file ex tf s.heap.get?
  val := fun _ => (valQ fn is, true)
  says := fun _ h => ∃ K : PySem.W.Frag, K.In h ∧ SaysQT fa fn is file ex tf h K
  of := fun _ _ e => ⟨_, frT_in, saysQT_of e⟩
  keeps := fun _ _ _ ⟨K, hK, c⟩ k => ⟨K, PySem.W.Frag.In.keeps hK k, ⟨c.q, c.hd, c.out, fun p hp => k _ _ (c.emp p hp)⟩⟩
theorem obsQT_eq {n : Nat} {fa : List Fa} {fn : List DefD} {is : List IniD} {file : Str} {ex : PySem.W.Frag → Bool} {tf : List Defn} {g : Addr → Option Obj} {s : Shared} (h : ∀ a, g a = s.heap.get? a) : obsQT n fa fn is file ex tf g = (hookQT n fa fn is file ex tf).obs s := by
  have e : g = s.heap.get? := funext h
  rw [e] <;> rfl
/-- tables lie apart -/
def apart (K : PySem.W.Frag) (tf : List Defn) : Bool := decide ((tf.map fun p => (cT K p).2).Nodup)
theorem apart_ok {K : PySem.W.Frag} {tf : List Defn} (h : apart K tf = true) {nm : Defn → Nat → Nat → Str} {d : Defn} (hd : d ∈ tf) : ∀ p ∈ tf.map (fun d => ((cT K d).2, nm d)), p.1 = (cT K d).2 → p.2 = nm d := by
  have z : (tf.map fun p => (cT K p).2).Nodup := of_decide_eq_true h
  intro p hp e
  obtain ⟨d', hd', rfl⟩ := List.mem_map.mp hp
  have e2 : (cT K d').2 = (cT K d).2 := e
  clear h hp e
  induction tf with
  | nil => cases hd
  | cons a r ih =>
    have z' : (cT K a).2 ∉ r.map (fun p => (cT K p).2) ∧ (r.map fun p => (cT K p).2).Nodup := List.nodup_cons.mp z
    rcases List.mem_cons.mp hd with h1 | h1
    · rcases List.mem_cons.mp hd' with h2 | h2
      · rw [h1, h2]
      · rw [h1] at e2
        exact absurd (List.mem_map.mpr ⟨d', h2, e2⟩) z'.1
    · rcases List.mem_cons.mp hd' with h2 | h2
      · rw [h2] at e2
        exact absurd (List.mem_map.mpr ⟨d, h1, e2.symm⟩) z'.1
      · exact ih h1 z'.2 h2
end Hq

namespace Lw
open PySem PySem.Spec PyProof.Rows L2 Dx Dg De Fv
def topS (i : Nat) : Stmt := PySem.Challenge.pw_treewarrant_k15_actions_of_rows.main.body.getD i (.Pass ⟨0, 0, 0, 0⟩)
def clsBody (st : Stmt) (j : Nat) : Stmt := match st with
  | .ClassDef _ _ _ body _ _ _ _ _ _ _ => body.getD j (.Pass ⟨0, 0, 0, 0⟩)
  | _ => .Pass ⟨0, 0, 0, 0⟩
abbrev clsTable : Stmt := topS 12
abbrev sNothing : Stmt := topS 2
theorem scNothing : FnScope ["table"] ["table"] (defScope sNothing) := Dg.scope_by (by decide +kernel)
abbrev sSingle : Stmt := topS 3
theorem scSingle : FnScope ["table", "state", "row"] ["table", "state"] (defScope sSingle) := Dg.scope_by (by decide +kernel)
abbrev sBeside : Stmt := topS 4
theorem scBeside : FnScope ["first", "second", "kind", "place"] ["first", "second"] (defScope sBeside) := Dg.scope_by (by decide +kernel)
abbrev sAbove : Stmt := topS 5
theorem scAbove : FnScope ["table", "name", "action"] ["table", "name", "action"] (defScope sAbove) := Dg.scope_by (by decide +kernel)
abbrev sActionOf : Stmt := topS 6
theorem scActionOf : FnScope ["table", "row", "found", "tree"] ["table", "row"] (defScope sActionOf) := Dg.scope_by (by decide +kernel)
abbrev sIsDocument : Stmt := topS 7
theorem scIsDocument : FnScope ["table", "action"] ["table", "action"] (defScope sIsDocument) := Dg.scope_by (by decide +kernel)
abbrev sFolded : Stmt := topS 9
theorem scFolded : FnScope ["tree", "make", "ways", "node", "made", "result"] ["tree", "make"] (defScope sFolded) := Dg.scope_by (by decide +kernel)
abbrev sStateOf : Stmt := topS 11
theorem scStateOf : FnScope ["machine", "tree", "read"] ["machine", "tree"] (defScope sStateOf) := Dg.scope_by (by decide +kernel)
abbrev sLawDraw : Stmt := topS 14
theorem scLawDraw : FnScope ["state", "script", "size", "cell", "mixed", "digit"] ["state", "script", "size"] (defScope sLawDraw) := Dg.scope_by (by decide +kernel)
abbrev sLawSomeTree : Stmt := topS 17
theorem scLawSomeTree : FnScope ["state", "script", "names", "left", "name", "children", "child"] ["state", "script", "names", "left"] (defScope sLawSomeTree) := Dg.scope_by (by decide +kernel)
abbrev sLawSize : Stmt := topS 18
theorem scLawSize : FnScope ["tree", "child"] ["tree"] (defScope sLawSize) := Dg.scope_by (by decide +kernel)
abbrev sLawTable : Stmt := topS 21
theorem scLawTable : FnScope ["state", "script", "names", "many", "begins", "steps", "finishes", "name", "first", "places", "k", "accepts", "one"] ["state", "script", "names"] (defScope sLawTable) := Dg.scope_by (by decide +kernel)
abbrev sLawState : Stmt := topS 22
theorem scLawState : FnScope ["table", "tree", "place", "child"] ["table", "tree"] (defScope sLawState) := Dg.scope_by (by decide +kernel)
abbrev sLawAction : Stmt := topS 24
theorem scLawAction : FnScope ["table", "row", "kind", "moves", "place", "tree"] ["table", "row"] (defScope sLawAction) := Dg.scope_by (by decide +kernel)
abbrev sLaw : Stmt := topS 25
theorem scLaw : FnScope ["script", "state", "names", "told", "table", "rows", "k", "row", "due", "said", "name", "other", "left", "first", "tree", "one"] ["script"] (defScope sLaw) := Dg.scope_by (by decide +kernel)
abbrev sTableInit : Stmt := clsBody clsTable 0
theorem scTableInit : FnScope ["self", "names", "begins", "steps", "finishes", "accepts", "row"] ["self", "names", "begins", "steps", "finishes", "accepts"] (defScope sTableInit) := Dg.scope_by (by decide +kernel)
abbrev sTableBegin : Stmt := clsBody clsTable 3
theorem scTableBegin : FnScope ["self", "name"] ["self", "name"] (defScope sTableBegin) := Dg.scope_by (by decide +kernel)
abbrev sTableStep : Stmt := clsBody clsTable 4
theorem scTableStep : FnScope ["self", "place", "state"] ["self", "place", "state"] (defScope sTableStep) := Dg.scope_by (by decide +kernel)
abbrev sTableFinish : Stmt := clsBody clsTable 5
theorem scTableFinish : FnScope ["self", "place"] ["self", "place"] (defScope sTableFinish) := Dg.scope_by (by decide +kernel)
abbrev sTableState : Stmt := clsBody clsTable 7
theorem scTableState : FnScope ["self", "tree"] ["self", "tree"] (defScope sTableState) := Dg.scope_by (by decide +kernel)
def pStateOfF0 : Stmt := (Pth.at_ (defBody sStateOf) 0)
theorem scStateOfF0 : NdefX.NScope ["name", "states", "machine", "place", "state"] ["name", "states"] ["machine"] (C8.fnScope pStateOfF0) := Pth.nsc (by decide +kernel)
theorem nd_StateOfF0 : NdefX.ndefB (defScope sStateOf) (C8.fnScope pStateOfF0) ["machine"] = true := by decide +kernel
def wfs : Nat → List (Str × Addr) → Addr → Fv.FW := fun j cl c => match j with
  | 19 => .nd (NdefX.NF.of pStateOfF0 "read" ((("state_of" : Str) ++ ".<locals>.") ++ "read") cl c)
  | _ => .lm ⟨"", Pth.lP Pth.noneE, Pth.noneE, Pth.lS Pth.noneE, cl, c⟩
def nms : Nat → List (Str × NameKind) := fun j => match j with
  | 19 => (C8.fnScope pStateOfF0).names
  | _ => []
def fus : Nat → List Str := fun j => match j with
  | 19 => ["machine"]
  | _ => []
def pss : Nat → List Str := fun j => match j with
  | 19 => ["name", "states"]
  | _ => []
def jis : List Nat := [19]
theorem wcl : ∀ j, j ∈ jis → ∀ (cl : List (Str × Addr)) (c : Addr), (wfs j cl c).nf.cl = cl := fun j hj cl c => by
  simp only [jis, List.mem_cons, List.not_mem_nil, or_false] at hj
  rcases hj with rfl <;> rfl
def tfs : List He.Defn := [("state_of", none)]
def tnm : He.Defn → Nat → Nat → Str := fun d _ _ => if d.1 = "state_of" then ((("state_of" : Str) ++ ".<locals>.") ++ "read") else  (d.1 ++ ".<locals>.") ++ "<lambda>"
def tabs (K : PySem.W.Frag) : List NdefX.NTab := tfs.map fun d => ((He.cT K d).2, tnm d)
theorem in_StateOf (K : PySem.W.Frag) : ((He.cT K ("state_of", none)).2, tnm ("state_of", none)) ∈ tabs K := List.mem_map.mpr ⟨_, by simp [tfs], rfl⟩
theorem one_StateOf {K : PySem.W.Frag} (h : Hq.apart K tfs = true) : ∀ p ∈ tabs K, p.1 = (He.cT K ("state_of", none)).2 → p.2 = tnm ("state_of", none) := Hq.apart_ok h (by simp [tfs])
abbrev CC (K : PySem.W.Frag) : Ct := ⟨K, false, He.ga K, fun x p => ExQ.fD x "TreewarrantError" p, 0, [], false, tabs K, wfs, nms, fus, jis, false⟩
instance {K : PySem.W.Frag} : Nw (CC K) := ⟨rfl⟩
abbrev CL (K : PySem.W.Frag) : Ct := lC (CC K)
instance {K : PySem.W.Frag} : Nw (CL K) := ⟨rfl⟩
def onTable : List Str := ["names", "begins", "steps", "finishes", "accepts"]
structure KF (K : PySem.W.Frag) : Prop where
  tn : Hq.apart K tfs = true
  ocTable : OCl K (He.ga K "Table") onTable
noncomputable def bNothing (K : PySem.W.Frag) (hK : KF K) (R : Tab) : DSt (CC K) :=
  (sRet (dTup (aD (dTup (aD (dStr (CC K) "none") (aNil (CC K)))) (aD (dTRg (dLook (dB1 (bLen (CC K)) (dLook (dOFld hK.ocTable "steps" (by decide) (dVar (CC K) 0)))))) (aNil (CC K))))))
noncomputable def bSingle (K : PySem.W.Frag) (hK : KF K) (R : Tab) : DSt (CC K) :=
  (sRet (dTup (aD (dTup (aD (dStr (CC K) "one") (aD (dVar (CC K) 1) (aNil (CC K))))) (aD (dB1 (bTup (CC K)) (dLookN (dLc (iT (dLook (dOFld hK.ocTable "steps" (by decide) (dVar (CC K) 0)))) (gN (CC K) 2) (tYes' (CC K)) (dOp (oIxT (CC K)) (dLook (dVar (CC K) 2)) (dLook (dVar (CC K) 1)))))) (aNil (CC K))))))
noncomputable def bBeside (K : PySem.W.Frag) (hK : KF K) (R : Tab) : DSt (CC K) :=
  (sSeq (sSet 2 (dTup (aD (dStr (CC K) "more") (aNil (CC K)))))
    (sSeq (sIf (tVal (dOp (oEq (CC K)) (dLook (dOp (oIxT (CC K)) (dLook (dVar (CC K) 0)) (dLook (dInt (CC K) 0)))) (dLook (dTup (aD (dStr (CC K) "none") (aNil (CC K))))))) (sSet 2 (dOp (oIxT (CC K)) (dLook (dVar (CC K) 1)) (dLook (dInt (CC K) 0)))) (sIf (tVal (dOp (oEq (CC K)) (dLook (dOp (oIxT (CC K)) (dLook (dVar (CC K) 1)) (dLook (dInt (CC K) 0)))) (dLook (dTup (aD (dStr (CC K) "none") (aNil (CC K))))))) (sSet 2 (dOp (oIxT (CC K)) (dLook (dVar (CC K) 0)) (dLook (dInt (CC K) 0)))) (sSkip (CC K))))
    (sRet (dTup (aD (dVar (CC K) 2) (aD (dB1 (bTup (CC K)) (dLookN (dLc (iT (dLook (dOp (oIxT (CC K)) (dLook (dVar (CC K) 0)) (dLook (dInt (CC K) 1))))) (gN (CC K) 3) (tYes' (CC K)) (dOp (oIxT (CC K)) (dLook (dOp (oIxT (CC K)) (dLook (dVar (CC K) 1)) (dLook (dInt (CC K) 1)))) (dLook (dVar (CC K) 3)))))) (aNil (CC K))))))))
noncomputable def bAbove (K : PySem.W.Frag) (hK : KF K) (R : Tab) : DSt (CC K) :=
  (sRet (dCall R 1 (aD (dVar (CC K) 0) (aD (dOMeth R 11 (He.ga K "Table") "finish" (dVar (CC K) 0) (aD (dOp (oIxT (CC K)) (dLook (dOp (oIxT (CC K)) (dLook (dVar (CC K) 2)) (dLook (dInt (CC K) 1)))) (dLook (dOMeth R 9 (He.ga K "Table") "begin" (dVar (CC K) 0) (aD (dVar (CC K) 1) (aNil (CC K)))))) (aNil (CC K)))) (aNil (CC K))))))
noncomputable def lActionOf1b (K : PySem.W.Frag) (hK : KF K) (R : Tab) : DSt (CC K) :=
  (sSet 2 (dCall R 2 (aD (dVar (CC K) 2) (aD (dCall R 1 (aD (dVar (CC K) 0) (aD (dOMeth R 12 (He.ga K "Table") "state" (dVar (CC K) 0) (aD (dVar (CC K) 3) (aNil (CC K)))) (aNil (CC K))))) (aNil (CC K))))))
noncomputable def bActionOf (K : PySem.W.Frag) (hK : KF K) (R : Tab) : DSt (CC K) :=
  (sSeq (sSet 2 (dCall R 0 (aD (dVar (CC K) 0) (aNil (CC K)))))
    (sSeq (sFor (iT (dLook (dVar (CC K) 1))) (gN (CC K) 3) (lActionOf1b K hK R))
    (sRet (dVar (CC K) 2))))
noncomputable def bIsDocument (K : PySem.W.Frag) (hK : KF K) (R : Tab) : DSt (CC K) :=
  (sRet (dAnd (dOp (oEq (CC K)) (dLook (dOp (oIxT (CC K)) (dLook (dOp (oIxT (CC K)) (dLook (dVar (CC K) 1)) (dLook (dInt (CC K) 0)))) (dLook (dInt (CC K) 0)))) (dLook (dStr (CC K) "one"))) (dOp (oInF (CC K)) (dLook (dOp (oIxT (CC K)) (dLook (dOp (oIxT (CC K)) (dLook (dVar (CC K) 1)) (dLook (dInt (CC K) 0)))) (dLook (dInt (CC K) 1)))) (dLook (dOFld hK.ocTable "accepts" (by decide) (dVar (CC K) 0))))))
noncomputable def lFolded1t (K : PySem.W.Frag) (hK : KF K) (R : Tab) : DT (CC K) :=
  (tBl (dBool (CC K) true))
noncomputable def lFolded1b (K : PySem.W.Frag) (hK : KF K) (R : Tab) : DSt (CC K) :=
  (sFoldV R 1 2 3 4 5 (sSeq (sIf (tVal (dOp (oEq (CC K)) (dLook (dLen3 (CC K) 2)) (dLook (dInt (CC K) 0)))) (sRet (dVar (CC K) 5)) (sSkip (CC K)))
    (s3App 2 (dVar (CC K) 5))))
noncomputable def bFolded (K : PySem.W.Frag) (hK : KF K) (R : Tab) : DSt (CC K) :=
  (sSeq (s3New1 2 (dVar (CC K) 0))
    (sWhile (lFolded1t K hK R) (lFolded1b K hK R)))
noncomputable def bStateOf (K : PySem.W.Frag) (hK : KF K) (R : Tab) : DSt (CC K) :=
  (sSeq (sNdef 2 19 (fun _ _ => rfl) (fun _ _ => rfl))
    (sRet (dCallC R 6 19 [0] (aD (dVar (CC K) 1) (aFn 2 (aNil (CC K)))))))
noncomputable def bLawDraw (K : PySem.W.Frag) (hK : KF K) (R : Tab) : DSt (CC K) :=
  (sSeq (sIf (tVal (dOp (oEq (CC K)) (dLook (dSt 0 1)) (dLook (dInt (CC K) 0)))) (sSeq (sSet 3 (dInt (CC K) 0))
    (sSeq (sIf (tVal (dOp (oGt (CC K)) (dLook (dScrL (scrV (CC K) 1))) (dLook (dInt (CC K) 0)))) (sSet 3 (dScrI (scrV (CC K) 1) (dLook (dOp (oMod (CC K)) (dLook (dSt 0 0)) (dLook (dScrL (scrV (CC K) 1))))))) (sSkip (CC K)))
    (sSeq (sIf (tVal (dOp (oLt (CC K)) (dLook (dVar (CC K) 3)) (dLook (dInt (CC K) 0)))) (sSet 3 (dOp (oSub (CC K)) (dLook (dInt (CC K) 1)) (dLook (dOp (oMul (CC K)) (dLook (dInt (CC K) 2)) (dLook (dVar (CC K) 3)))))) (sSkip (CC K)))
    (sSeq (sSet 4 (dOp (oMod (CC K)) (dLook (dB1 (bInt (CC K)) (dLook (dOp (oMul (CC K)) (dLook (dOp (oAdd (CC K)) (dLook (dOp (oAdd (CC K)) (dLook (dVar (CC K) 3)) (dLook (dOp (oMul (CC K)) (dLook (dSt 0 0)) (dLook (dInt (CC K) 7919)))))) (dLook (dInt (CC K) 1)))) (dLook (dInt (CC K) 48271)))))) (dLook (dInt (CC K) 2147483647))))
    (sSeq (sStSet 0 1 (dOp (oMod (CC K)) (dLook (dB1 (bInt (CC K)) (dLook (dOp (oAdd (CC K)) (dLook (dOp (oMul (CC K)) (dLook (dVar (CC K) 4)) (dLook (dInt (CC K) 69621)))) (dLook (dOp (oMul (CC K)) (dLook (dSt 0 0)) (dLook (dInt (CC K) 104729)))))))) (dLook (dInt (CC K) 4294967291))))
    (sSeq (sIf (tAn (tVal (dOp (oGe (CC K)) (dLook (dVar (CC K) 3)) (dLook (dOp (oPow (CC K)) (dLook (dInt (CC K) 10)) (dLook (dInt (CC K) 18)))))) (tVal (dOp (oLt (CC K)) (dLook (dSt 0 0)) (dLook (dScrL (scrV (CC K) 1)))))) (sStSet 0 1 (dVar (CC K) 3)) (sSkip (CC K)))
    (sStSet 0 0 (dOp (oAdd (CC K)) (dLook (dSt 0 0)) (dLook (dInt (CC K) 1)))))))))) (sSkip (CC K)))
    (sSeq (sSet 5 (dOp (oMod (CC K)) (dLook (dB1 (bInt (CC K)) (dLook (dSt 0 1)))) (dLook (dVar (CC K) 2))))
    (sSeq (sStSet 0 1 (dOp (oDiv (CC K)) (dLook (dSt 0 1)) (dLook (dVar (CC K) 2))))
    (sRet (dVar (CC K) 5)))))
noncomputable def lLawSomeTree1t (K : PySem.W.Frag) (hK : KF K) (R : Tab) : DT (CC K) :=
  (tAn (tVal (dOp (oGt (CC K)) (dLook (dVar (CC K) 3)) (dLook (dInt (CC K) 0)))) (tVal (dOp (oGt (CC K)) (dLook (dCall R 13 (aSt 0 (aSt 1 (aD (dInt (CC K) 3) (aNil (CC K))))))) (dLook (dInt (CC K) 0)))))
noncomputable def lLawSomeTree1b (K : PySem.W.Frag) (hK : KF K) (R : Tab) : DSt (CC K) :=
  (sSeq (sSet 6 (dCall R 14 (aSt 0 (aSt 1 (aD (dVar (CC K) 2) (aD (dOp (oAdd (CC K)) (dLook (dInt (CC K) 1)) (dLook (dCall R 13 (aSt 0 (aSt 1 (aD (dVar (CC K) 3) (aNil (CC K)))))))) (aNil (CC K))))))))
    (sSeq (sApp 5 (dVar (CC K) 6))
    (sSet 3 (dOp (oSub (CC K)) (dLook (dVar (CC K) 3)) (dLook (dCall R 15 (aD (dVar (CC K) 6) (aNil (CC K)))))))))
noncomputable def bLawSomeTree (K : PySem.W.Frag) (hK : KF K) (R : Tab) : DSt (CC K) :=
  (sSeq (sSet 4 (dOp (oIxL (CC K)) (dLook (dVar (CC K) 2)) (dLook (dCall R 13 (aSt 0 (aSt 1 (aD (dB1 (bLen (CC K)) (dLook (dVar (CC K) 2))) (aNil (CC K)))))))))
    (sSeq (sSet 3 (dOp (oSub (CC K)) (dLook (dVar (CC K) 3)) (dLook (dInt (CC K) 1))))
    (sSeq (sNew 5 (dLst (aNil (CC K))))
    (sSeq (sWhile (lLawSomeTree1t K hK R) (lLawSomeTree1b K hK R))
    (sRet (dTup (aD (dVar (CC K) 4) (aD (dB1 (bTup (CC K)) (dPk (CC K) 5)) (aNil (CC K))))))))))
noncomputable def bLawSize (K : PySem.W.Frag) (hK : KF K) (R : Tab) : DSt (CC K) :=
  (sRet (dOp (oAdd (CC K)) (dLook (dInt (CC K) 1)) (dLook (dB1 (bSum (CC K)) (dLookN (dLc (iT (dLook (dOp (oIxT (CC K)) (dLook (dVar (CC K) 0)) (dLook (dInt (CC K) 1))))) (gN (CC K) 1) (tYes' (CC K)) (dCall R 15 (aD (dVar (CC K) 1) (aNil (CC K))))))))))
noncomputable def lLawTable1b (K : PySem.W.Frag) (hK : KF K) (R : Tab) : DSt (CC K) :=
  (sSeq (sApp 5 (dB1 (bTup (CC K)) (dLookN (dLc (iR1 (dLook (dVar (CC K) 3))) (gN (CC K) 12) (tYes' (CC K)) (dOp (oAdd (CC K)) (dLook (dVar (CC K) 8)) (dLook (dCall R 13 (aSt 0 (aSt 1 (aD (dVar (CC K) 9) (aNil (CC K))))))))))))
    (sApp 6 (dCall R 13 (aSt 0 (aSt 1 (aD (dVar (CC K) 3) (aNil (CC K))))))))
noncomputable def lLawTable2b (K : PySem.W.Frag) (hK : KF K) (R : Tab) : DSt (CC K) :=
  (sSeq (sSet 8 (dB1 (bLen (CC K)) (dPk (CC K) 5)))
    (sSeq (sSet 9 (dOp (oAdd (CC K)) (dLook (dInt (CC K) 1)) (dLook (dCall R 13 (aSt 0 (aSt 1 (aD (dInt (CC K) 4) (aNil (CC K)))))))))
    (sSeq (sApp 4 (dOp (oAdd (CC K)) (dLook (dVar (CC K) 8)) (dLook (dCall R 13 (aSt 0 (aSt 1 (aD (dVar (CC K) 9) (aNil (CC K)))))))))
    (sFor (iR1 (dLook (dVar (CC K) 9))) (gN (CC K) 10) (lLawTable1b K hK R)))))
noncomputable def bLawTable (K : PySem.W.Frag) (hK : KF K) (R : Tab) : DSt (CC K) :=
  (sSeq (sSet 3 (dOp (oAdd (CC K)) (dLook (dInt (CC K) 1)) (dLook (dCall R 13 (aSt 0 (aSt 1 (aD (dInt (CC K) 4) (aNil (CC K)))))))))
    (sSeq (sNew 4 (dLst (aNil (CC K))))
    (sSeq (sNew 5 (dLst (aNil (CC K))))
    (sSeq (sNew 6 (dLst (aNil (CC K))))
    (sSeq (sFor (iL (dFrz (dB1 (bSort (CC K)) (dLook (dVar (CC K) 2))))) (gN (CC K) 7) (lLawTable2b K hK R))
    (sSeq (sSet 11 (dFrz (dLc (iR1 (dLook (dVar (CC K) 3))) (gN (CC K) 10) (tVal (dOp (oEq (CC K)) (dLook (dCall R 13 (aSt 0 (aSt 1 (aD (dInt (CC K) 2) (aNil (CC K))))))) (dLook (dInt (CC K) 1)))) (dVar (CC K) 10))))
    (sRet (dTup (aD (dB1 (bTup (CC K)) (dLookN (dB1 (bSort (CC K)) (dLook (dVar (CC K) 2))))) (aD (dB1 (bTup (CC K)) (dPk (CC K) 4)) (aD (dB1 (bTup (CC K)) (dPk (CC K) 5)) (aD (dB1 (bTup (CC K)) (dPk (CC K) 6)) (aD (dB1 (bTup (CC K)) (dLook (dVar (CC K) 11))) (aNil (CC K)))))))))))))))
noncomputable def lLawState1b (K : PySem.W.Frag) (hK : KF K) (R : Tab) : DSt (CC K) :=
  (sSet 2 (dOp (oIxT (CC K)) (dLook (dOp (oIxT (CC K)) (dLook (dOp (oIxT (CC K)) (dLook (dVar (CC K) 0)) (dLook (dInt (CC K) 2)))) (dLook (dVar (CC K) 2)))) (dLook (dCall R 17 (aD (dVar (CC K) 0) (aD (dVar (CC K) 3) (aNil (CC K))))))))
noncomputable def bLawState (K : PySem.W.Frag) (hK : KF K) (R : Tab) : DSt (CC K) :=
  (sSeq (sSet 2 (dOp (oIxT (CC K)) (dLook (dOp (oIxT (CC K)) (dLook (dVar (CC K) 0)) (dLook (dInt (CC K) 1)))) (dLook (dTIx (dOp (oIxT (CC K)) (dLook (dVar (CC K) 0)) (dLook (dInt (CC K) 0))) (dLook (dOp (oIxT (CC K)) (dLook (dVar (CC K) 1)) (dLook (dInt (CC K) 0))))))))
    (sSeq (sFor (iT (dLook (dOp (oIxT (CC K)) (dLook (dVar (CC K) 1)) (dLook (dInt (CC K) 1))))) (gN (CC K) 3) (lLawState1b K hK R))
    (sRet (dOp (oIxT (CC K)) (dLook (dOp (oIxT (CC K)) (dLook (dVar (CC K) 0)) (dLook (dInt (CC K) 3)))) (dLook (dVar (CC K) 2))))))
noncomputable def lLawAction1b (K : PySem.W.Frag) (hK : KF K) (R : Tab) : DSt (CC K) :=
  (sSet 4 (dOp (oIxT (CC K)) (dLook (dOp (oIxT (CC K)) (dLook (dOp (oIxT (CC K)) (dLook (dVar (CC K) 0)) (dLook (dInt (CC K) 2)))) (dLook (dVar (CC K) 4)))) (dLook (dCall R 17 (aD (dVar (CC K) 0) (aD (dVar (CC K) 5) (aNil (CC K))))))))
noncomputable def lLawAction2b (K : PySem.W.Frag) (hK : KF K) (R : Tab) : DSt (CC K) :=
  (sSeq (sFor (iT (dLook (dVar (CC K) 1))) (gN (CC K) 5) (lLawAction1b K hK R))
    (sApp 3 (dVar (CC K) 4)))
noncomputable def bLawAction (K : PySem.W.Frag) (hK : KF K) (R : Tab) : DSt (CC K) :=
  (sSeq (sSet 2 (dTup (aD (dStr (CC K) "more") (aNil (CC K)))))
    (sSeq (sIf (tVal (dOp (oEq (CC K)) (dLook (dB1 (bLen (CC K)) (dLook (dVar (CC K) 1)))) (dLook (dInt (CC K) 0)))) (sSet 2 (dTup (aD (dStr (CC K) "none") (aNil (CC K))))) (sSkip (CC K)))
    (sSeq (sIf (tVal (dOp (oEq (CC K)) (dLook (dB1 (bLen (CC K)) (dLook (dVar (CC K) 1)))) (dLook (dInt (CC K) 1)))) (sSet 2 (dTup (aD (dStr (CC K) "one") (aD (dCall R 17 (aD (dVar (CC K) 0) (aD (dOp (oIxT (CC K)) (dLook (dVar (CC K) 1)) (dLook (dInt (CC K) 0))) (aNil (CC K))))) (aNil (CC K)))))) (sSkip (CC K)))
    (sSeq (sNew 3 (dLst (aNil (CC K))))
    (sSeq (sFor (iR1 (dLook (dB1 (bLen (CC K)) (dLook (dOp (oIxT (CC K)) (dLook (dVar (CC K) 0)) (dLook (dInt (CC K) 2))))))) (gN (CC K) 4) (lLawAction2b K hK R))
    (sRet (dTup (aD (dVar (CC K) 2) (aD (dB1 (bTup (CC K)) (dPk (CC K) 3)) (aNil (CC K)))))))))))
noncomputable def lLaw1b (K : PySem.W.Frag) (hK : KF K) (R : Tab) : DSt (CC K) :=
  (sSeq (sIf (tVal (dOp (oNe (CC K)) (dLook (dCall R 2 (aD (dVar (CC K) 8) (aD (dCall R 18 (aD (dVar (CC K) 3) (aD (dVar (CC K) 11) (aNil (CC K))))) (aNil (CC K)))))) (dLook (dCall R 18 (aD (dVar (CC K) 3) (aD (dOp (oCatT (CC K)) (dLook (dVar (CC K) 7)) (dLook (dVar (CC K) 11))) (aNil (CC K)))))))) (sRet (dBool (CC K) false)) (sSkip (CC K)))
    (sIf (tVal (dOp (oEq (CC K)) (dLook (dOp (oIxT (CC K)) (dLook (dCall R 18 (aD (dVar (CC K) 3) (aD (dVar (CC K) 11) (aNil (CC K)))))) (dLook (dInt (CC K) 1)))) (dLook (dOp (oIxT (CC K)) (dLook (dVar (CC K) 8)) (dLook (dInt (CC K) 1)))))) (sSeq (sSet 12 (dB1 (bTup (CC K)) (dLookN (dLc (iR1 (dLook (dCall R 13 (aSt 1 (aSt 0 (aD (dInt (CC K) 3) (aNil (CC K)))))))) (gN (CC K) 15) (tYes' (CC K)) (dCall R 14 (aSt 1 (aSt 0 (aD (dVar (CC K) 2) (aD (dInt (CC K) 3) (aNil (CC K)))))))))))
    (sSeq (sSet 13 (dCall R 17 (aD (dVar (CC K) 3) (aD (dTup (aD (dVar (CC K) 10) (aD (dOp (oCatT (CC K)) (dLook (dOp (oCatT (CC K)) (dLook (dVar (CC K) 12)) (dLook (dVar (CC K) 7)))) (dLook (dVar (CC K) 12))) (aNil (CC K))))) (aNil (CC K))))))
    (sIf (tVal (dOp (oNe (CC K)) (dLook (dVar (CC K) 13)) (dLook (dCall R 17 (aD (dVar (CC K) 3) (aD (dTup (aD (dVar (CC K) 10) (aD (dOp (oCatT (CC K)) (dLook (dOp (oCatT (CC K)) (dLook (dVar (CC K) 12)) (dLook (dVar (CC K) 11)))) (dLook (dVar (CC K) 12))) (aNil (CC K))))) (aNil (CC K)))))))) (sRet (dBool (CC K) false)) (sSkip (CC K))))) (sSkip (CC K))))
noncomputable def lLaw2b (K : PySem.W.Frag) (hK : KF K) (R : Tab) : DSt (CC K) :=
  (sSeq (sSet 8 (dCall R 18 (aD (dVar (CC K) 3) (aD (dVar (CC K) 7) (aNil (CC K))))))
    (sSeq (sIf (tVal (dOp (oNe (CC K)) (dLook (dCall R 4 (aD (dVar (CC K) 4) (aD (dVar (CC K) 7) (aNil (CC K)))))) (dLook (dVar (CC K) 8)))) (sRet (dBool (CC K) false)) (sSkip (CC K)))
    (sSeq (sSet 9 (dCall R 5 (aD (dVar (CC K) 4) (aD (dVar (CC K) 8) (aNil (CC K))))))
    (sSeq (sIf (tO (tNo (tBl (dIs (dLook (dVar (CC K) 9)) "bool" (by decide)))) (tVal (dOp (oNe (CC K)) (dLook (dVar (CC K) 9)) (dLook (dAnd (dOp (oEq (CC K)) (dLook (dB1 (bLen (CC K)) (dLook (dVar (CC K) 7)))) (dLook (dInt (CC K) 1))) (dOp (oInF (CC K)) (dLook (dOp (oIxT (CC K)) (dLook (dOp (oIxT (CC K)) (dLook (dVar (CC K) 8)) (dLook (dInt (CC K) 0)))) (dLook (dInt (CC K) 1)))) (dLook (dOp (oIxT (CC K)) (dLook (dVar (CC K) 3)) (dLook (dInt (CC K) 4)))))))))) (sRet (dBool (CC K) false)) (sSkip (CC K)))
    (sSeq (sSet 10 (dOp (oIxL (CC K)) (dLook (dVar (CC K) 2)) (dLook (dCall R 13 (aSt 1 (aSt 0 (aD (dB1 (bLen (CC K)) (dLook (dVar (CC K) 2))) (aNil (CC K)))))))))
    (sSeq (sIf (tVal (dOp (oNe (CC K)) (dLook (dCall R 3 (aD (dVar (CC K) 4) (aD (dVar (CC K) 10) (aD (dVar (CC K) 8) (aNil (CC K))))))) (dLook (dCall R 18 (aD (dVar (CC K) 3) (aD (dTup (aD (dTup (aD (dVar (CC K) 10) (aD (dVar (CC K) 7) (aNil (CC K))))) (aNil (CC K)))) (aNil (CC K)))))))) (sRet (dBool (CC K) false)) (sSkip (CC K)))
    (sFrz 5 (sFor (iL (dVar (CC K) 5)) (gN (CC K) 11) (lLaw1b K hK R)))))))))
noncomputable def lLaw3b (K : PySem.W.Frag) (hK : KF K) (R : Tab) : DSt (CC K) :=
  (sApp 5 (dB1 (bTup (CC K)) (dLookN (dLc (iR1 (dLook (dCall R 13 (aSt 1 (aSt 0 (aD (dInt (CC K) 5) (aNil (CC K)))))))) (gN (CC K) 15) (tYes' (CC K)) (dCall R 14 (aSt 1 (aSt 0 (aD (dVar (CC K) 2) (aD (dInt (CC K) 4) (aNil (CC K)))))))))))
noncomputable def bLaw (K : PySem.W.Frag) (hK : KF K) (R : Tab) : DSt (CC K) :=
  (sSeq (sSet 2 (dFrz (dSl (sL (CC K)) (dLookN (dLst (aD (dStr (CC K) "a") (aD (dStr (CC K) "b") (aD (dStr (CC K) "c") (aNil (CC K))))))) none (some (dLook (dOp (oAdd (CC K)) (dLook (dInt (CC K) 1)) (dLook (dCall R 13 (aSt 1 (aSt 0 (aD (dInt (CC K) 3) (aNil (CC K)))))))))))))
    (sSeq (sSet 3 (dCall R 16 (aSt 1 (aSt 0 (aD (dVar (CC K) 2) (aNil (CC K)))))))
    (sSeq (sSet 4 (dNew R 8 (He.ga K "Table") (aD (dOp (oIxT (CC K)) (dLook (dVar (CC K) 3)) (dLook (dInt (CC K) 0))) (aD (dOp (oIxT (CC K)) (dLook (dVar (CC K) 3)) (dLook (dInt (CC K) 1))) (aD (dOp (oIxT (CC K)) (dLook (dVar (CC K) 3)) (dLook (dInt (CC K) 2))) (aD (dOp (oIxT (CC K)) (dLook (dVar (CC K) 3)) (dLook (dInt (CC K) 3))) (aD (dOp (oIxT (CC K)) (dLook (dVar (CC K) 3)) (dLook (dInt (CC K) 4))) (aNil (CC K)))))))))
    (sSeq (sNew 5 (dLst (aNil (CC K))))
    (sSeq (sFor (iR1 (dLook (dInt (CC K) 3))) (gN (CC K) 6) (lLaw3b K hK R))
    (sSeq (sFrz 5 (sFor (iL (dVar (CC K) 5)) (gN (CC K) 7) (lLaw2b K hK R)))
    (sSeq (sIf (tVal (dOp (oNe (CC K)) (dLook (dCall R 0 (aD (dVar (CC K) 4) (aNil (CC K))))) (dLook (dCall R 18 (aD (dVar (CC K) 3) (aD (dTup (aNil (CC K))) (aNil (CC K)))))))) (sRet (dBool (CC K) false)) (sSkip (CC K)))
    (sSeq (sSet 14 (dCall R 14 (aSt 1 (aSt 0 (aD (dVar (CC K) 2) (aD (dInt (CC K) 5) (aNil (CC K))))))))
    (sRet (dOp (oEq (CC K)) (dLook (dCall R 1 (aD (dVar (CC K) 4) (aD (dCall R 17 (aD (dVar (CC K) 3) (aD (dVar (CC K) 14) (aNil (CC K))))) (aNil (CC K)))))) (dLook (dCall R 18 (aD (dVar (CC K) 3) (aD (dTup (aD (dVar (CC K) 14) (aNil (CC K)))) (aNil (CC K))))))))))))))))
noncomputable def bTableInit (K : PySem.W.Frag) (hK : KF K) (R : Tab) : IB (CC K) :=
  [("names", (dB1 (bTup (CC K)) (dLook (dVar (CC K) 1)))),
    ("begins", (dB1 (bTup (CC K)) (dLook (dVar (CC K) 2)))),
    ("steps", (dB1 (bTup (CC K)) (dLookN (dLc (iT (dLook (dVar (CC K) 3))) (gN (CC K) 6) (tYes' (CC K)) (dB1 (bTup (CC K)) (dLook (dVar (CC K) 6))))))),
    ("finishes", (dB1 (bTup (CC K)) (dLook (dVar (CC K) 4)))),
    ("accepts", (dB1 (bTup (CC K)) (dLook (dVar (CC K) 5))))]
noncomputable def bTableBegin (K : PySem.W.Frag) (hK : KF K) (R : Tab) : DSt (CC K) :=
  (sRet (dOp (oIxT (CC K)) (dLook (dOFld hK.ocTable "begins" (by decide) (dVar (CC K) 0))) (dLook (dTIx (dOFld hK.ocTable "names" (by decide) (dVar (CC K) 0)) (dLook (dVar (CC K) 1))))))
noncomputable def bTableStep (K : PySem.W.Frag) (hK : KF K) (R : Tab) : DSt (CC K) :=
  (sRet (dOp (oIxT (CC K)) (dLook (dOp (oIxT (CC K)) (dLook (dOFld hK.ocTable "steps" (by decide) (dVar (CC K) 0))) (dLook (dVar (CC K) 1)))) (dLook (dVar (CC K) 2))))
noncomputable def bTableFinish (K : PySem.W.Frag) (hK : KF K) (R : Tab) : DSt (CC K) :=
  (sRet (dOp (oIxT (CC K)) (dLook (dOFld hK.ocTable "finishes" (by decide) (dVar (CC K) 0))) (dLook (dVar (CC K) 1))))
noncomputable def bTableState (K : PySem.W.Frag) (hK : KF K) (R : Tab) : DSt (CC K) :=
  (sRet (dCall R 7 (aD (dVar (CC K) 0) (aD (dVar (CC K) 1) (aNil (CC K))))))
noncomputable def lStateOfF01b (K : PySem.W.Frag) (hK : KF K) (R : Tab) : DSt (CC K) :=
  (sSet 3 (dOMeth R 10 (He.ga K "Table") "step" (dVar (CC K) 2) (aD (dVar (CC K) 3) (aD (dVar (CC K) 4) (aNil (CC K))))))
noncomputable def bStateOfF0 (K : PySem.W.Frag) (hK : KF K) (R : Tab) : DSt (CC K) :=
  (sSeq (sSet 3 (dOMeth R 9 (He.ga K "Table") "begin" (dVar (CC K) 2) (aD (dVar (CC K) 0) (aNil (CC K)))))
    (sSeq (sFor (iL (dVar (CC K) 1)) (gN (CC K) 4) (lStateOfF01b K hK R))
    (sRet (dOMeth R 11 (He.ga K "Table") "finish" (dVar (CC K) 2) (aD (dVar (CC K) 3) (aNil (CC K)))))))
noncomputable def step (K : PySem.W.Frag) (hK : KF K) (R : Tab) : Tab := fun i as st => match i with
  | 0 => callD 1 0 (bNothing K hK R) as st
  | 1 => callD 2 1 (bSingle K hK R) as st
  | 2 => callD 2 2 (bBeside K hK R) as st
  | 3 => callD 3 0 (bAbove K hK R) as st
  | 4 => callD 2 2 (bActionOf K hK R) as st
  | 5 => callD 2 0 (bIsDocument K hK R) as st
  | 6 => callD 2 4 (bFolded K hK R) as st
  | 7 => callM 2 1 (bStateOf K hK R) as st
  | 13 => callD 3 3 (bLawDraw K hK R) as st
  | 14 => callD 4 3 (bLawSomeTree K hK R) as st
  | 15 => callD 1 1 (bLawSize K hK R) as st
  | 16 => callD 3 10 (bLawTable K hK R) as st
  | 17 => callD 2 2 (bLawState K hK R) as st
  | 18 => callD 2 4 (bLawAction K hK R) as st
  | 8 => callI (He.ga K "Table") 6 1 (bTableInit K hK R) as st
  | 9 => callD 2 0 (bTableBegin K hK R) as st
  | 10 => callD 3 0 (bTableStep K hK R) as st
  | 11 => callD 2 0 (bTableFinish K hK R) as st
  | 12 => callD 2 0 (bTableState K hK R) as st
  | 19 => callD 3 2 (bStateOfF0 K hK R) as st
  | _ => none
structure Tx (K : PySem.W.Frag) (mg : Str → Option Value) : Prop where
  m_bool : mg "bool" = none
  m_int : mg "int" = none
  m_isinstance : mg "isinstance" = none
  m_len : mg "len" = none
  m_range : mg "range" = none
  m_sorted : mg "sorted" = none
  m_sum : mg "sum" = none
  m_tuple : mg "tuple" = none
/-- a class that is raised and caught -/
structure Xx (P : Program) (w : World) (K : PySem.W.Frag) (mg : Str → Option Value) (base : Heap) (x : Str) : Prop where
  rs : ExQ.Rs P w K mg base x (He.ga K x) 2 (fun p => ExQ.fD x "TreewarrantError" p)
  xf : XfC K (He.ga K x)
  np : PySem.W.findIn K (.ref (He.ga K x)) "place" = some none
  nn : PySem.W.findIn K (.ref (He.ga K x)) "name" = some none
structure Xs (P : Program) (w : World) (K : PySem.W.Frag) (mg : Str → Option Value) (base : Heap) : Prop where
  triv : True
structure Cs (P : Program) (w : World) (K : PySem.W.Frag) (mg : Str → Option Value) (base : Heap) (k : Nat) (R : Tab) : Prop where
  Nothing : Cl P w K mg base CX0 k "nothing" ["table"] (spF (CC K) R 0)
  Single : Cl P w K mg base CX0 k "single" ["table", "state"] (spF (CC K) R 1)
  Beside : Cl P w K mg base CX0 k "beside" ["first", "second"] (spF (CC K) R 2)
  Above : Cl P w K mg base CX0 k "above" ["table", "name", "action"] (spF (CC K) R 3)
  ActionOf : Cl P w K mg base CX0 k "action_of" ["table", "row"] (spF (CC K) R 4)
  IsDocument : Cl P w K mg base CX0 k "is_document" ["table", "action"] (spF (CC K) R 5)
  Folded : ClC P w K mg base CX0 k "folded" ["tree", "make"] (spC (CC K) R 6)
  StateOf : Cl P w K mg base CX0 k "state_of" ["machine", "tree"] (spF (CC K) R 7)
  LawDraw : Cl P w K mg base CX0 k "_law_draw" ["state", "script", "size"] (spF (CC K) R 13)
  LawSomeTree : Cl P w K mg base CX0 k "_law_some_tree" ["state", "script", "names", "left"] (spF (CC K) R 14)
  LawSize : Cl P w K mg base CX0 k "_law_size" ["tree"] (spF (CC K) R 15)
  LawTable : Cl P w K mg base CX0 k "_law_table" ["state", "script", "names"] (spF (CC K) R 16)
  LawState : Cl P w K mg base CX0 k "_law_state" ["table", "tree"] (spF (CC K) R 17)
  LawAction : Cl P w K mg base CX0 k "_law_action" ["table", "row"] (spF (CC K) R 18)
  TableInit : Ck P w K mg base CX0 (k - 1) "Table" (He.ga K "Table") ["self", "names", "begins", "steps", "finishes", "accepts"] (spI (CC K) (He.ga K "Table") R 8)
  TableBegin : Cm P w K mg base CX0 k (He.ga K "Table") "begin" ["self", "name"] (spF (CC K) R 9)
  TableStep : Cm P w K mg base CX0 k (He.ga K "Table") "step" ["self", "place", "state"] (spF (CC K) R 10)
  TableFinish : Cm P w K mg base CX0 k (He.ga K "Table") "finish" ["self", "place"] (spF (CC K) R 11)
  TableState : Cm P w K mg base CX0 k (He.ga K "Table") "state" ["self", "tree"] (spF (CC K) R 12)
  wStateOfF0 : ∀ (cl : List (Str × Addr)) (c : Addr), Fv.WOk P w K mg base CX0 k (wfs 19 cl c) ["name", "states"] ["machine"] (spV (CC K) R 19)
theorem Cs.wok {P : Program} {w : World} {K : PySem.W.Frag} {mg : Str → Option Value} {base : Heap} {k : Nat} {R : Tab} (c : Cs P w K mg base k R) : ∀ j, j ∈ jis → ∀ (cl : List (Str × Addr)) (a : Addr), Fv.WOk P w K mg base CX0 k (wfs j cl a) (pss j) (fus j) (spV (CC K) R j) := fun j hj cl a => by
  simp only [jis, List.mem_cons, List.not_mem_nil, or_false] at hj
  rcases hj with rfl
  · exact c.wStateOfF0 cl a
/-- the tables of code objects -/
structure Tb (K : PySem.W.Frag) (mg : Str → Option Value) (base : Heap) : Prop where
  StateOf : LamX.TabB base mg (He.cT K ("state_of", none)).1 (He.cT K ("state_of", none)).2
section
variable {P : Program} {w : World} {K : PySem.W.Frag} {mg : Str → Option Value} {base : Heap} {f : Addr} {fd : FuncData} {k : Nat} {R : Tab}
theorem okStateOfF0 (hK : KF K) (T : Tx K mg) (x : Xs P w K mg base) (hx : 3 ≤ k) (c : Cs P w K mg base k R) : ∀ (cl : List (Str × Addr)) (a : Addr), Fv.WOk P w K mg base CX0 (k + 2) (wfs 19 cl a) ["name", "states"] ["machine"] (spV (CC K) (step K hK R) 19) := fun cl a =>
  ndf_F (C := CC K) (m := 2) (body := bStateOfF0 K hK R) scStateOfF0 (fun _ _ _ us hl => match us, hl with | [_, _], _ => rfl) rfl rfl (fun _ _ => rfl) fun f A outer s H E hr2 W => (by
    have hr := hr2.mono (Nat.le_succ k)
    unfold bStateOfF0
    simp only [lStateOfF01b, te_dVar, te_dPk, te_dKn, te_dLook, te_dLookN, te_dFrz, te_dOp, te_dB1, te_dRev, te_dIs, te_aNil, te_aD, te_aSt, te_dTup, te_dLst, te_dAnd, te_dOr, te_dNot, te_dNeg, te_dCh, te_tVal, te_tBl, te_tYes, te_tAn, te_tO, te_tNo, te_dIf, te_dSl, te_po0, te_po1, te_dCall, te_dCallX, te_iL, te_iLp, te_iT, te_iS, te_iR1, te_iR2, te_gN, te_gT, te_gs0, te_gs1, te_gNsl, te_gTsl, te_dLc, te_dSt, te_scrV, te_scrS, te_dScrL, te_dScrI, te_dXf, ts_sSet, ts_sTgt, ts_sNew, ts_sExpr, ts_sRet, ts_sRetN, ts_sSkip, ts_sBrk, ts_sCnt, ts_sIf, ts_sSeq, ts_sAug, ts_sApp, ts_sExt, ts_sPop, ts_sPopE, ts_sSetI, ts_sFrz, ts_sFor, ts_sWhile, ts_sRaise, ts_sStSet, ts_sNew2, te_dPk2, ts_sPop2, ts_sPush2, ts_sAppP, ts_sXl, ts_sXlA, te_xl0, te_xl1, te_dXo, te_dIsX, te_tPr, ts_s3Push, ts_s3New0, ts_s3New1, ts_s3App, te_dLen3, ts_s3Closed, te_dJoin, te_aV, ts_sFoldT, tFoldT, te_dIsXB, ts_sDkNew, ts_sDkPut, te_dDkSorted, te_cpf, te_cpn, ts_sPar2, ts_sPar3, ts_sCallPop, ts_sExtCallPop, te_dMax, ts_sPar3T, te_dDicS, te_tsTx0, te_tsTx1, te_dDicIx, te_dFld, ts_sFldSet, ts_sFldAdd, te_dMeth, te_dMethX, te_dWLen, te_dWName, ts_sWApp, ts_sWPop, ts_sWPush, ts_sWNew, ts_sOb, te_dTlNe, te_dTlPop, ts_sTlApp, ts_sTl, te_aLam, te_aFn, te_dCallC, te_dCallP, te_dCallV, ts_sFoldV, ts_sNdef, te_iRR, ts_sExtT, te_dOFld, te_dOMeth, te_dNew, tInit_1, tInit_2, te_dLIx, te_dLRg, te_dTRg, te_dMin, te_dBor, te_dInS, te_dNInS, ts_sSlApp, ts_sCallS, te_dSlNew, te_dTIx]
    exact (pss_cons (ps_set (i := 3) scStateOfF0.nd rfl (.inl rfl) (pe_cm c.TableBegin hK.ocTable.cls hr (Nat.le_refl _) (pv 2) (pa_cons (pv 0) pa_nil)))
      (pss_cons (ps_for PassesOwn.never rfl (pi_list (pv 1)) (pg_name (i := 4) scStateOfF0.nd rfl (.inl rfl)) (pss_one (ps_set (i := 3) scStateOfF0.nd rfl (.inl rfl) (pe_cm c.TableStep hK.ocTable.cls hr (Nat.le_refl _) (pv 2) (pa_cons (pv 3) (pa_cons (pv 4) pa_nil))))))
      (pss_one (ps_ret (pe_cm c.TableFinish hK.ocTable.cls hr (Nat.le_refl _) (pv 2) (pa_cons (pv 3) pa_nil)))))))
theorem okTableInit (hK : KF K) (T : Tx K mg) (x : Xs P w K mg base) (hx : 3 ≤ k) (c : Cs P w K mg base k R) (F : Fd K "__init__" "Table.__init__" sTableInit f fd) : FnOk P w K mg base CX0 (k + 1) f fd ["self", "names", "begins", "steps", "finishes", "accepts"] (spI (CC K) (He.ga K "Table") (step K hK R) 8) :=
  init_F (C := CC K) (m := 1) (body := bTableInit K hK R) hK.ocTable F scTableInit rfl rfl (by decide) (fun _ _ => rfl) fun cdv A outer s H E hr2 W => (by
    have hr := hr2
    unfold bTableInit
    simp only [te_dVar, te_dPk, te_dKn, te_dLook, te_dLookN, te_dFrz, te_dOp, te_dB1, te_dRev, te_dIs, te_aNil, te_aD, te_aSt, te_dTup, te_dLst, te_dAnd, te_dOr, te_dNot, te_dNeg, te_dCh, te_tVal, te_tBl, te_tYes, te_tAn, te_tO, te_tNo, te_dIf, te_dSl, te_po0, te_po1, te_dCall, te_dCallX, te_iL, te_iLp, te_iT, te_iS, te_iR1, te_iR2, te_gN, te_gT, te_gs0, te_gs1, te_gNsl, te_gTsl, te_dLc, te_dSt, te_scrV, te_scrS, te_dScrL, te_dScrI, te_dXf, ts_sSet, ts_sTgt, ts_sNew, ts_sExpr, ts_sRet, ts_sRetN, ts_sSkip, ts_sBrk, ts_sCnt, ts_sIf, ts_sSeq, ts_sAug, ts_sApp, ts_sExt, ts_sPop, ts_sPopE, ts_sSetI, ts_sFrz, ts_sFor, ts_sWhile, ts_sRaise, ts_sStSet, ts_sNew2, te_dPk2, ts_sPop2, ts_sPush2, ts_sAppP, ts_sXl, ts_sXlA, te_xl0, te_xl1, te_dXo, te_dIsX, te_tPr, ts_s3Push, ts_s3New0, ts_s3New1, ts_s3App, te_dLen3, ts_s3Closed, te_dJoin, te_aV, ts_sFoldT, tFoldT, te_dIsXB, ts_sDkNew, ts_sDkPut, te_dDkSorted, te_cpf, te_cpn, ts_sPar2, ts_sPar3, ts_sCallPop, ts_sExtCallPop, te_dMax, ts_sPar3T, te_dDicS, te_tsTx0, te_tsTx1, te_dDicIx, te_dFld, ts_sFldSet, ts_sFldAdd, te_dMeth, te_dMethX, te_dWLen, te_dWName, ts_sWApp, ts_sWPop, ts_sWPush, ts_sWNew, ts_sOb, te_dTlNe, te_dTlPop, ts_sTlApp, ts_sTl, te_aLam, te_aFn, te_dCallC, te_dCallP, te_dCallV, ts_sFoldV, ts_sNdef, te_iRR, ts_sExtT, te_dOFld, te_dOMeth, te_dNew, tInit_1, tInit_2, te_dLIx, te_dLRg, te_dTRg, te_dMin, te_dBor, te_dInS, te_dNInS, ts_sSlApp, ts_sCallS, te_dSlNew, te_dTIx]
    exact (pss_cons (ps_fld (pv 0) (pe_callTy Tn.call_tupleN (by rfl) T.m_tuple PyProof.Rows.boot_tuple (pa_cons (pv 1) pa_nil)) (by rfl)) (pss_cons (ps_fld (pv 0) (pe_callTy Tn.call_tupleN (by rfl) T.m_tuple PyProof.Rows.boot_tuple (pa_cons (pv 2) pa_nil)) (by rfl)) (pss_cons (ps_fld (pv 0) (pe_callTy Tn.call_tupleN (by rfl) T.m_tuple PyProof.Rows.boot_tuple (pa_cons (pe_lc (own := [("row", 6)]) rfl scTableInit.nd (pi_tup (pv 3)) (blkOk_by (N := ["self", "names", "begins", "steps", "finishes", "accepts", "row"]) (sc := (defScope sTableInit)) (by decide +kernel)) (fun _ _ _ _ _ => (pg_name (i := 6) scTableInit.nd rfl (.inl rfl))) (fun _ _ _ _ _ => pts_nil) (fun _ _ _ _ _ => (pe_callTy Tn.call_tupleN (by rfl) T.m_tuple PyProof.Rows.boot_tuple (pa_cons (pv 6) pa_nil)))) pa_nil)) (by rfl)) (pss_cons (ps_fld (pv 0) (pe_callTy Tn.call_tupleN (by rfl) T.m_tuple PyProof.Rows.boot_tuple (pa_cons (pv 4) pa_nil)) (by rfl)) (pss_one (ps_fld (pv 0) (pe_callTy Tn.call_tupleN (by rfl) T.m_tuple PyProof.Rows.boot_tuple (pa_cons (pv 5) pa_nil)) (by rfl))))))))
theorem okTableBegin (hK : KF K) (T : Tx K mg) (x : Xs P w K mg base) (hx : 3 ≤ k) (c : Cs P w K mg base k R) (F : Fd K "begin" "Table.begin" sTableBegin f fd) : FnOk P w K mg base CX0 (k + 2) f fd ["self", "name"] (spF (CC K) (step K hK R) 9) :=
  fn_F (C := CC K) (m := 0) (body := bTableBegin K hK R) F scTableBegin rfl (fun _ _ => rfl) fun cdv A outer s H E hr2 W => (by
    have hr := hr2.mono (Nat.le_succ k)
    unfold bTableBegin
    simp only [te_dVar, te_dPk, te_dKn, te_dLook, te_dLookN, te_dFrz, te_dOp, te_dB1, te_dRev, te_dIs, te_aNil, te_aD, te_aSt, te_dTup, te_dLst, te_dAnd, te_dOr, te_dNot, te_dNeg, te_dCh, te_tVal, te_tBl, te_tYes, te_tAn, te_tO, te_tNo, te_dIf, te_dSl, te_po0, te_po1, te_dCall, te_dCallX, te_iL, te_iLp, te_iT, te_iS, te_iR1, te_iR2, te_gN, te_gT, te_gs0, te_gs1, te_gNsl, te_gTsl, te_dLc, te_dSt, te_scrV, te_scrS, te_dScrL, te_dScrI, te_dXf, ts_sSet, ts_sTgt, ts_sNew, ts_sExpr, ts_sRet, ts_sRetN, ts_sSkip, ts_sBrk, ts_sCnt, ts_sIf, ts_sSeq, ts_sAug, ts_sApp, ts_sExt, ts_sPop, ts_sPopE, ts_sSetI, ts_sFrz, ts_sFor, ts_sWhile, ts_sRaise, ts_sStSet, ts_sNew2, te_dPk2, ts_sPop2, ts_sPush2, ts_sAppP, ts_sXl, ts_sXlA, te_xl0, te_xl1, te_dXo, te_dIsX, te_tPr, ts_s3Push, ts_s3New0, ts_s3New1, ts_s3App, te_dLen3, ts_s3Closed, te_dJoin, te_aV, ts_sFoldT, tFoldT, te_dIsXB, ts_sDkNew, ts_sDkPut, te_dDkSorted, te_cpf, te_cpn, ts_sPar2, ts_sPar3, ts_sCallPop, ts_sExtCallPop, te_dMax, ts_sPar3T, te_dDicS, te_tsTx0, te_tsTx1, te_dDicIx, te_dFld, ts_sFldSet, ts_sFldAdd, te_dMeth, te_dMethX, te_dWLen, te_dWName, ts_sWApp, ts_sWPop, ts_sWPush, ts_sWNew, ts_sOb, te_dTlNe, te_dTlPop, ts_sTlApp, ts_sTl, te_aLam, te_aFn, te_dCallC, te_dCallP, te_dCallV, ts_sFoldV, ts_sNdef, te_iRR, ts_sExtT, te_dOFld, te_dOMeth, te_dNew, tInit_1, tInit_2, te_dLIx, te_dLRg, te_dTRg, te_dMin, te_dBor, te_dInS, te_dNInS, ts_sSlApp, ts_sCallS, te_dSlNew, te_dTIx]
    exact (pss_one (ps_ret (pe_ix ix_tup (pe_fld (pv 0) (by rfl)) (Tn.pe_tbm PySem.F.slot_tuple_index PySem.F.type_tuple_index mt_tup_index (pe_fld (pv 0) (by rfl)) (pa_cons (pv 1) pa_nil)) (fun _ _ => rfl)))))
theorem okTableStep (hK : KF K) (T : Tx K mg) (x : Xs P w K mg base) (hx : 3 ≤ k) (c : Cs P w K mg base k R) (F : Fd K "step" "Table.step" sTableStep f fd) : FnOk P w K mg base CX0 (k + 2) f fd ["self", "place", "state"] (spF (CC K) (step K hK R) 10) :=
  fn_F (C := CC K) (m := 0) (body := bTableStep K hK R) F scTableStep rfl (fun _ _ => rfl) fun cdv A outer s H E hr2 W => (by
    have hr := hr2.mono (Nat.le_succ k)
    unfold bTableStep
    simp only [te_dVar, te_dPk, te_dKn, te_dLook, te_dLookN, te_dFrz, te_dOp, te_dB1, te_dRev, te_dIs, te_aNil, te_aD, te_aSt, te_dTup, te_dLst, te_dAnd, te_dOr, te_dNot, te_dNeg, te_dCh, te_tVal, te_tBl, te_tYes, te_tAn, te_tO, te_tNo, te_dIf, te_dSl, te_po0, te_po1, te_dCall, te_dCallX, te_iL, te_iLp, te_iT, te_iS, te_iR1, te_iR2, te_gN, te_gT, te_gs0, te_gs1, te_gNsl, te_gTsl, te_dLc, te_dSt, te_scrV, te_scrS, te_dScrL, te_dScrI, te_dXf, ts_sSet, ts_sTgt, ts_sNew, ts_sExpr, ts_sRet, ts_sRetN, ts_sSkip, ts_sBrk, ts_sCnt, ts_sIf, ts_sSeq, ts_sAug, ts_sApp, ts_sExt, ts_sPop, ts_sPopE, ts_sSetI, ts_sFrz, ts_sFor, ts_sWhile, ts_sRaise, ts_sStSet, ts_sNew2, te_dPk2, ts_sPop2, ts_sPush2, ts_sAppP, ts_sXl, ts_sXlA, te_xl0, te_xl1, te_dXo, te_dIsX, te_tPr, ts_s3Push, ts_s3New0, ts_s3New1, ts_s3App, te_dLen3, ts_s3Closed, te_dJoin, te_aV, ts_sFoldT, tFoldT, te_dIsXB, ts_sDkNew, ts_sDkPut, te_dDkSorted, te_cpf, te_cpn, ts_sPar2, ts_sPar3, ts_sCallPop, ts_sExtCallPop, te_dMax, ts_sPar3T, te_dDicS, te_tsTx0, te_tsTx1, te_dDicIx, te_dFld, ts_sFldSet, ts_sFldAdd, te_dMeth, te_dMethX, te_dWLen, te_dWName, ts_sWApp, ts_sWPop, ts_sWPush, ts_sWNew, ts_sOb, te_dTlNe, te_dTlPop, ts_sTlApp, ts_sTl, te_aLam, te_aFn, te_dCallC, te_dCallP, te_dCallV, ts_sFoldV, ts_sNdef, te_iRR, ts_sExtT, te_dOFld, te_dOMeth, te_dNew, tInit_1, tInit_2, te_dLIx, te_dLRg, te_dTRg, te_dMin, te_dBor, te_dInS, te_dNInS, ts_sSlApp, ts_sCallS, te_dSlNew, te_dTIx]
    exact (pss_one (ps_ret (pe_ix ix_tup (pe_ix ix_tup (pe_fld (pv 0) (by rfl)) (pv 1) (fun _ _ => rfl)) (pv 2) (fun _ _ => rfl)))))
theorem okTableFinish (hK : KF K) (T : Tx K mg) (x : Xs P w K mg base) (hx : 3 ≤ k) (c : Cs P w K mg base k R) (F : Fd K "finish" "Table.finish" sTableFinish f fd) : FnOk P w K mg base CX0 (k + 2) f fd ["self", "place"] (spF (CC K) (step K hK R) 11) :=
  fn_F (C := CC K) (m := 0) (body := bTableFinish K hK R) F scTableFinish rfl (fun _ _ => rfl) fun cdv A outer s H E hr2 W => (by
    have hr := hr2.mono (Nat.le_succ k)
    unfold bTableFinish
    simp only [te_dVar, te_dPk, te_dKn, te_dLook, te_dLookN, te_dFrz, te_dOp, te_dB1, te_dRev, te_dIs, te_aNil, te_aD, te_aSt, te_dTup, te_dLst, te_dAnd, te_dOr, te_dNot, te_dNeg, te_dCh, te_tVal, te_tBl, te_tYes, te_tAn, te_tO, te_tNo, te_dIf, te_dSl, te_po0, te_po1, te_dCall, te_dCallX, te_iL, te_iLp, te_iT, te_iS, te_iR1, te_iR2, te_gN, te_gT, te_gs0, te_gs1, te_gNsl, te_gTsl, te_dLc, te_dSt, te_scrV, te_scrS, te_dScrL, te_dScrI, te_dXf, ts_sSet, ts_sTgt, ts_sNew, ts_sExpr, ts_sRet, ts_sRetN, ts_sSkip, ts_sBrk, ts_sCnt, ts_sIf, ts_sSeq, ts_sAug, ts_sApp, ts_sExt, ts_sPop, ts_sPopE, ts_sSetI, ts_sFrz, ts_sFor, ts_sWhile, ts_sRaise, ts_sStSet, ts_sNew2, te_dPk2, ts_sPop2, ts_sPush2, ts_sAppP, ts_sXl, ts_sXlA, te_xl0, te_xl1, te_dXo, te_dIsX, te_tPr, ts_s3Push, ts_s3New0, ts_s3New1, ts_s3App, te_dLen3, ts_s3Closed, te_dJoin, te_aV, ts_sFoldT, tFoldT, te_dIsXB, ts_sDkNew, ts_sDkPut, te_dDkSorted, te_cpf, te_cpn, ts_sPar2, ts_sPar3, ts_sCallPop, ts_sExtCallPop, te_dMax, ts_sPar3T, te_dDicS, te_tsTx0, te_tsTx1, te_dDicIx, te_dFld, ts_sFldSet, ts_sFldAdd, te_dMeth, te_dMethX, te_dWLen, te_dWName, ts_sWApp, ts_sWPop, ts_sWPush, ts_sWNew, ts_sOb, te_dTlNe, te_dTlPop, ts_sTlApp, ts_sTl, te_aLam, te_aFn, te_dCallC, te_dCallP, te_dCallV, ts_sFoldV, ts_sNdef, te_iRR, ts_sExtT, te_dOFld, te_dOMeth, te_dNew, tInit_1, tInit_2, te_dLIx, te_dLRg, te_dTRg, te_dMin, te_dBor, te_dInS, te_dNInS, ts_sSlApp, ts_sCallS, te_dSlNew, te_dTIx]
    exact (pss_one (ps_ret (pe_ix ix_tup (pe_fld (pv 0) (by rfl)) (pv 1) (fun _ _ => rfl)))))
theorem okTableState (hK : KF K) (T : Tx K mg) (x : Xs P w K mg base) (hx : 3 ≤ k) (c : Cs P w K mg base k R) (F : Fd K "state" "Table.state" sTableState f fd) : FnOk P w K mg base CX0 (k + 2) f fd ["self", "tree"] (spF (CC K) (step K hK R) 12) :=
  fn_F (C := CC K) (m := 0) (body := bTableState K hK R) F scTableState rfl (fun _ _ => rfl) fun cdv A outer s H E hr2 W => (by
    have hr := hr2.mono (Nat.le_succ k)
    unfold bTableState
    simp only [te_dVar, te_dPk, te_dKn, te_dLook, te_dLookN, te_dFrz, te_dOp, te_dB1, te_dRev, te_dIs, te_aNil, te_aD, te_aSt, te_dTup, te_dLst, te_dAnd, te_dOr, te_dNot, te_dNeg, te_dCh, te_tVal, te_tBl, te_tYes, te_tAn, te_tO, te_tNo, te_dIf, te_dSl, te_po0, te_po1, te_dCall, te_dCallX, te_iL, te_iLp, te_iT, te_iS, te_iR1, te_iR2, te_gN, te_gT, te_gs0, te_gs1, te_gNsl, te_gTsl, te_dLc, te_dSt, te_scrV, te_scrS, te_dScrL, te_dScrI, te_dXf, ts_sSet, ts_sTgt, ts_sNew, ts_sExpr, ts_sRet, ts_sRetN, ts_sSkip, ts_sBrk, ts_sCnt, ts_sIf, ts_sSeq, ts_sAug, ts_sApp, ts_sExt, ts_sPop, ts_sPopE, ts_sSetI, ts_sFrz, ts_sFor, ts_sWhile, ts_sRaise, ts_sStSet, ts_sNew2, te_dPk2, ts_sPop2, ts_sPush2, ts_sAppP, ts_sXl, ts_sXlA, te_xl0, te_xl1, te_dXo, te_dIsX, te_tPr, ts_s3Push, ts_s3New0, ts_s3New1, ts_s3App, te_dLen3, ts_s3Closed, te_dJoin, te_aV, ts_sFoldT, tFoldT, te_dIsXB, ts_sDkNew, ts_sDkPut, te_dDkSorted, te_cpf, te_cpn, ts_sPar2, ts_sPar3, ts_sCallPop, ts_sExtCallPop, te_dMax, ts_sPar3T, te_dDicS, te_tsTx0, te_tsTx1, te_dDicIx, te_dFld, ts_sFldSet, ts_sFldAdd, te_dMeth, te_dMethX, te_dWLen, te_dWName, ts_sWApp, ts_sWPop, ts_sWPush, ts_sWNew, ts_sOb, te_dTlNe, te_dTlPop, ts_sTlApp, ts_sTl, te_aLam, te_aFn, te_dCallC, te_dCallP, te_dCallV, ts_sFoldV, ts_sNdef, te_iRR, ts_sExtT, te_dOFld, te_dOMeth, te_dNew, tInit_1, tInit_2, te_dLIx, te_dLRg, te_dTRg, te_dMin, te_dBor, te_dInS, te_dNInS, ts_sSlApp, ts_sCallS, te_dSlNew, te_dTIx]
    exact (pss_one (ps_ret (pe_cl c.StateOf hr (Nat.le_refl _) rfl (pa_cons (pv 0) (pa_cons (pv 1) pa_nil))))))
theorem okNothing (hK : KF K) (T : Tx K mg) (x : Xs P w K mg base) (hx : 3 ≤ k) (c : Cs P w K mg base k R) (F : Fd K "nothing" "nothing" sNothing f fd) (hm : mg "nothing" = some (.ref f)) : Cl P w K mg base CX0 (k + 2) "nothing" ["table"] (spF (CC K) (step K hK R) 0) :=
  cl_F (C := CC K) (m := 0) (body := bNothing K hK R) F scNothing hm (FunD.bindsN F fun _ _ _ _ _ _ us hl => match us, hl with | [_], _ => rfl) rfl (fun _ _ => rfl) fun cdv A outer s H E hr2 W => (by
    have hr := hr2.mono (Nat.le_succ k)
    unfold bNothing
    simp only [te_dVar, te_dPk, te_dKn, te_dLook, te_dLookN, te_dFrz, te_dOp, te_dB1, te_dRev, te_dIs, te_aNil, te_aD, te_aSt, te_dTup, te_dLst, te_dAnd, te_dOr, te_dNot, te_dNeg, te_dCh, te_tVal, te_tBl, te_tYes, te_tAn, te_tO, te_tNo, te_dIf, te_dSl, te_po0, te_po1, te_dCall, te_dCallX, te_iL, te_iLp, te_iT, te_iS, te_iR1, te_iR2, te_gN, te_gT, te_gs0, te_gs1, te_gNsl, te_gTsl, te_dLc, te_dSt, te_scrV, te_scrS, te_dScrL, te_dScrI, te_dXf, ts_sSet, ts_sTgt, ts_sNew, ts_sExpr, ts_sRet, ts_sRetN, ts_sSkip, ts_sBrk, ts_sCnt, ts_sIf, ts_sSeq, ts_sAug, ts_sApp, ts_sExt, ts_sPop, ts_sPopE, ts_sSetI, ts_sFrz, ts_sFor, ts_sWhile, ts_sRaise, ts_sStSet, ts_sNew2, te_dPk2, ts_sPop2, ts_sPush2, ts_sAppP, ts_sXl, ts_sXlA, te_xl0, te_xl1, te_dXo, te_dIsX, te_tPr, ts_s3Push, ts_s3New0, ts_s3New1, ts_s3App, te_dLen3, ts_s3Closed, te_dJoin, te_aV, ts_sFoldT, tFoldT, te_dIsXB, ts_sDkNew, ts_sDkPut, te_dDkSorted, te_cpf, te_cpn, ts_sPar2, ts_sPar3, ts_sCallPop, ts_sExtCallPop, te_dMax, ts_sPar3T, te_dDicS, te_tsTx0, te_tsTx1, te_dDicIx, te_dFld, ts_sFldSet, ts_sFldAdd, te_dMeth, te_dMethX, te_dWLen, te_dWName, ts_sWApp, ts_sWPop, ts_sWPush, ts_sWNew, ts_sOb, te_dTlNe, te_dTlPop, ts_sTlApp, ts_sTl, te_aLam, te_aFn, te_dCallC, te_dCallP, te_dCallV, ts_sFoldV, ts_sNdef, te_iRR, ts_sExtT, te_dOFld, te_dOMeth, te_dNew, tInit_1, tInit_2, te_dLIx, te_dLRg, te_dTRg, te_dMin, te_dBor, te_dInS, te_dNInS, ts_sSlApp, ts_sCallS, te_dSlNew, te_dTIx]
    exact (pss_one (ps_ret (Tn.pe_tupN (pa_cons (Tn.pe_tupN (pa_cons pe_str pa_nil)) (pa_cons (Tn.pe_tupRgN rfl (by rfl) T.m_tuple (prg_1 (by rfl) T.m_range (pe_callB call_len (by rfl) T.m_len PySem.boot_len (pa_cons (pe_fld (pv 0) (by rfl)) pa_nil)))) pa_nil))))))
theorem okSingle (hK : KF K) (T : Tx K mg) (x : Xs P w K mg base) (hx : 3 ≤ k) (c : Cs P w K mg base k R) (F : Fd K "single" "single" sSingle f fd) (hm : mg "single" = some (.ref f)) : Cl P w K mg base CX0 (k + 2) "single" ["table", "state"] (spF (CC K) (step K hK R) 1) :=
  cl_F (C := CC K) (m := 1) (body := bSingle K hK R) F scSingle hm (FunD.bindsN F fun _ _ _ _ _ _ us hl => match us, hl with | [_, _], _ => rfl) rfl (fun _ _ => rfl) fun cdv A outer s H E hr2 W => (by
    have hr := hr2.mono (Nat.le_succ k)
    unfold bSingle
    simp only [te_dVar, te_dPk, te_dKn, te_dLook, te_dLookN, te_dFrz, te_dOp, te_dB1, te_dRev, te_dIs, te_aNil, te_aD, te_aSt, te_dTup, te_dLst, te_dAnd, te_dOr, te_dNot, te_dNeg, te_dCh, te_tVal, te_tBl, te_tYes, te_tAn, te_tO, te_tNo, te_dIf, te_dSl, te_po0, te_po1, te_dCall, te_dCallX, te_iL, te_iLp, te_iT, te_iS, te_iR1, te_iR2, te_gN, te_gT, te_gs0, te_gs1, te_gNsl, te_gTsl, te_dLc, te_dSt, te_scrV, te_scrS, te_dScrL, te_dScrI, te_dXf, ts_sSet, ts_sTgt, ts_sNew, ts_sExpr, ts_sRet, ts_sRetN, ts_sSkip, ts_sBrk, ts_sCnt, ts_sIf, ts_sSeq, ts_sAug, ts_sApp, ts_sExt, ts_sPop, ts_sPopE, ts_sSetI, ts_sFrz, ts_sFor, ts_sWhile, ts_sRaise, ts_sStSet, ts_sNew2, te_dPk2, ts_sPop2, ts_sPush2, ts_sAppP, ts_sXl, ts_sXlA, te_xl0, te_xl1, te_dXo, te_dIsX, te_tPr, ts_s3Push, ts_s3New0, ts_s3New1, ts_s3App, te_dLen3, ts_s3Closed, te_dJoin, te_aV, ts_sFoldT, tFoldT, te_dIsXB, ts_sDkNew, ts_sDkPut, te_dDkSorted, te_cpf, te_cpn, ts_sPar2, ts_sPar3, ts_sCallPop, ts_sExtCallPop, te_dMax, ts_sPar3T, te_dDicS, te_tsTx0, te_tsTx1, te_dDicIx, te_dFld, ts_sFldSet, ts_sFldAdd, te_dMeth, te_dMethX, te_dWLen, te_dWName, ts_sWApp, ts_sWPop, ts_sWPush, ts_sWNew, ts_sOb, te_dTlNe, te_dTlPop, ts_sTlApp, ts_sTl, te_aLam, te_aFn, te_dCallC, te_dCallP, te_dCallV, ts_sFoldV, ts_sNdef, te_iRR, ts_sExtT, te_dOFld, te_dOMeth, te_dNew, tInit_1, tInit_2, te_dLIx, te_dLRg, te_dTRg, te_dMin, te_dBor, te_dInS, te_dNInS, ts_sSlApp, ts_sCallS, te_dSlNew, te_dTIx]
    exact (pss_one (ps_ret (Tn.pe_tupN (pa_cons (Tn.pe_tupN (pa_cons pe_str (pa_cons (pv 1) pa_nil))) (pa_cons (pe_callTy Tn.call_tupleN (by rfl) T.m_tuple PyProof.Rows.boot_tuple (pa_cons (pe_lc (own := [("row", 2)]) rfl scSingle.nd (pi_tup (pe_fld (pv 0) (by rfl))) (blkOk_by (N := ["table", "state", "row"]) (sc := (defScope sSingle)) (by decide +kernel)) (fun _ _ _ _ _ => (pg_name (i := 2) scSingle.nd rfl (.inl rfl))) (fun _ _ _ _ _ => pts_nil) (fun _ _ _ _ _ => (pe_ix ix_tup (pv 2) (pv 1) (fun _ _ => rfl)))) pa_nil)) pa_nil))))))
theorem okBeside (hK : KF K) (T : Tx K mg) (x : Xs P w K mg base) (hx : 3 ≤ k) (c : Cs P w K mg base k R) (F : Fd K "beside" "beside" sBeside f fd) (hm : mg "beside" = some (.ref f)) : Cl P w K mg base CX0 (k + 2) "beside" ["first", "second"] (spF (CC K) (step K hK R) 2) :=
  cl_F (C := CC K) (m := 2) (body := bBeside K hK R) F scBeside hm (FunD.bindsN F fun _ _ _ _ _ _ us hl => match us, hl with | [_, _], _ => rfl) rfl (fun _ _ => rfl) fun cdv A outer s H E hr2 W => (by
    have hr := hr2.mono (Nat.le_succ k)
    unfold bBeside
    simp only [te_dVar, te_dPk, te_dKn, te_dLook, te_dLookN, te_dFrz, te_dOp, te_dB1, te_dRev, te_dIs, te_aNil, te_aD, te_aSt, te_dTup, te_dLst, te_dAnd, te_dOr, te_dNot, te_dNeg, te_dCh, te_tVal, te_tBl, te_tYes, te_tAn, te_tO, te_tNo, te_dIf, te_dSl, te_po0, te_po1, te_dCall, te_dCallX, te_iL, te_iLp, te_iT, te_iS, te_iR1, te_iR2, te_gN, te_gT, te_gs0, te_gs1, te_gNsl, te_gTsl, te_dLc, te_dSt, te_scrV, te_scrS, te_dScrL, te_dScrI, te_dXf, ts_sSet, ts_sTgt, ts_sNew, ts_sExpr, ts_sRet, ts_sRetN, ts_sSkip, ts_sBrk, ts_sCnt, ts_sIf, ts_sSeq, ts_sAug, ts_sApp, ts_sExt, ts_sPop, ts_sPopE, ts_sSetI, ts_sFrz, ts_sFor, ts_sWhile, ts_sRaise, ts_sStSet, ts_sNew2, te_dPk2, ts_sPop2, ts_sPush2, ts_sAppP, ts_sXl, ts_sXlA, te_xl0, te_xl1, te_dXo, te_dIsX, te_tPr, ts_s3Push, ts_s3New0, ts_s3New1, ts_s3App, te_dLen3, ts_s3Closed, te_dJoin, te_aV, ts_sFoldT, tFoldT, te_dIsXB, ts_sDkNew, ts_sDkPut, te_dDkSorted, te_cpf, te_cpn, ts_sPar2, ts_sPar3, ts_sCallPop, ts_sExtCallPop, te_dMax, ts_sPar3T, te_dDicS, te_tsTx0, te_tsTx1, te_dDicIx, te_dFld, ts_sFldSet, ts_sFldAdd, te_dMeth, te_dMethX, te_dWLen, te_dWName, ts_sWApp, ts_sWPop, ts_sWPush, ts_sWNew, ts_sOb, te_dTlNe, te_dTlPop, ts_sTlApp, ts_sTl, te_aLam, te_aFn, te_dCallC, te_dCallP, te_dCallV, ts_sFoldV, ts_sNdef, te_iRR, ts_sExtT, te_dOFld, te_dOMeth, te_dNew, tInit_1, tInit_2, te_dLIx, te_dLRg, te_dTRg, te_dMin, te_dBor, te_dInS, te_dNInS, ts_sSlApp, ts_sCallS, te_dSlNew, te_dTIx]
    exact (pss_cons (ps_set (i := 2) scBeside.nd rfl (.inl rfl) (Tn.pe_tupN (pa_cons pe_str pa_nil)))
      (pss_cons (ps_if (pt_cmpR (op_eqW hr.unW) (pe_ix ix_tup (pv 0) pe_int (fun _ _ => rfl)) (Tn.pe_tupN (pa_cons pe_str pa_nil)) (nomark _)) (pss_one (ps_set (i := 2) scBeside.nd rfl (.inl rfl) (pe_ix ix_tup (pv 1) pe_int (fun _ _ => rfl)))) (pss_one (ps_if (pt_cmpR (op_eqW hr.unW) (pe_ix ix_tup (pv 1) pe_int (fun _ _ => rfl)) (Tn.pe_tupN (pa_cons pe_str pa_nil)) (nomark _)) (pss_one (ps_set (i := 2) scBeside.nd rfl (.inl rfl) (pe_ix ix_tup (pv 0) pe_int (fun _ _ => rfl)))) pss_nil)))
      (pss_one (ps_ret (Tn.pe_tupN (pa_cons (pv 2) (pa_cons (pe_callTy Tn.call_tupleN (by rfl) T.m_tuple PyProof.Rows.boot_tuple (pa_cons (pe_lc (own := [("place", 3)]) rfl scBeside.nd (pi_tup (pe_ix ix_tup (pv 0) pe_int (fun _ _ => rfl))) (blkOk_by (N := ["first", "second", "kind", "place"]) (sc := (defScope sBeside)) (by decide +kernel)) (fun _ _ _ _ _ => (pg_name (i := 3) scBeside.nd rfl (.inl rfl))) (fun _ _ _ _ _ => pts_nil) (fun _ _ _ _ _ => (pe_ix ix_tup (pe_ix ix_tup (pv 1) pe_int (fun _ _ => rfl)) (pv 3) (fun _ _ => rfl)))) pa_nil)) pa_nil))))))))
theorem okAbove (hK : KF K) (T : Tx K mg) (x : Xs P w K mg base) (hx : 3 ≤ k) (c : Cs P w K mg base k R) (F : Fd K "above" "above" sAbove f fd) (hm : mg "above" = some (.ref f)) : Cl P w K mg base CX0 (k + 2) "above" ["table", "name", "action"] (spF (CC K) (step K hK R) 3) :=
  cl_F (C := CC K) (m := 0) (body := bAbove K hK R) F scAbove hm (FunD.bindsN F fun _ _ _ _ _ _ us hl => match us, hl with | [_, _, _], _ => rfl) rfl (fun _ _ => rfl) fun cdv A outer s H E hr2 W => (by
    have hr := hr2.mono (Nat.le_succ k)
    unfold bAbove
    simp only [te_dVar, te_dPk, te_dKn, te_dLook, te_dLookN, te_dFrz, te_dOp, te_dB1, te_dRev, te_dIs, te_aNil, te_aD, te_aSt, te_dTup, te_dLst, te_dAnd, te_dOr, te_dNot, te_dNeg, te_dCh, te_tVal, te_tBl, te_tYes, te_tAn, te_tO, te_tNo, te_dIf, te_dSl, te_po0, te_po1, te_dCall, te_dCallX, te_iL, te_iLp, te_iT, te_iS, te_iR1, te_iR2, te_gN, te_gT, te_gs0, te_gs1, te_gNsl, te_gTsl, te_dLc, te_dSt, te_scrV, te_scrS, te_dScrL, te_dScrI, te_dXf, ts_sSet, ts_sTgt, ts_sNew, ts_sExpr, ts_sRet, ts_sRetN, ts_sSkip, ts_sBrk, ts_sCnt, ts_sIf, ts_sSeq, ts_sAug, ts_sApp, ts_sExt, ts_sPop, ts_sPopE, ts_sSetI, ts_sFrz, ts_sFor, ts_sWhile, ts_sRaise, ts_sStSet, ts_sNew2, te_dPk2, ts_sPop2, ts_sPush2, ts_sAppP, ts_sXl, ts_sXlA, te_xl0, te_xl1, te_dXo, te_dIsX, te_tPr, ts_s3Push, ts_s3New0, ts_s3New1, ts_s3App, te_dLen3, ts_s3Closed, te_dJoin, te_aV, ts_sFoldT, tFoldT, te_dIsXB, ts_sDkNew, ts_sDkPut, te_dDkSorted, te_cpf, te_cpn, ts_sPar2, ts_sPar3, ts_sCallPop, ts_sExtCallPop, te_dMax, ts_sPar3T, te_dDicS, te_tsTx0, te_tsTx1, te_dDicIx, te_dFld, ts_sFldSet, ts_sFldAdd, te_dMeth, te_dMethX, te_dWLen, te_dWName, ts_sWApp, ts_sWPop, ts_sWPush, ts_sWNew, ts_sOb, te_dTlNe, te_dTlPop, ts_sTlApp, ts_sTl, te_aLam, te_aFn, te_dCallC, te_dCallP, te_dCallV, ts_sFoldV, ts_sNdef, te_iRR, ts_sExtT, te_dOFld, te_dOMeth, te_dNew, tInit_1, tInit_2, te_dLIx, te_dLRg, te_dTRg, te_dMin, te_dBor, te_dInS, te_dNInS, ts_sSlApp, ts_sCallS, te_dSlNew, te_dTIx]
    exact (pss_one (ps_ret (pe_cl c.Single hr (Nat.le_refl _) rfl (pa_cons (pv 0) (pa_cons (pe_cm c.TableFinish hK.ocTable.cls hr (Nat.le_refl _) (pv 0) (pa_cons (pe_ix ix_tup (pe_ix ix_tup (pv 2) pe_int (fun _ _ => rfl)) (pe_cm c.TableBegin hK.ocTable.cls hr (Nat.le_refl _) (pv 0) (pa_cons (pv 1) pa_nil)) (fun _ _ => rfl)) pa_nil)) pa_nil))))))
theorem okActionOf (hK : KF K) (T : Tx K mg) (x : Xs P w K mg base) (hx : 3 ≤ k) (c : Cs P w K mg base k R) (F : Fd K "action_of" "action_of" sActionOf f fd) (hm : mg "action_of" = some (.ref f)) : Cl P w K mg base CX0 (k + 2) "action_of" ["table", "row"] (spF (CC K) (step K hK R) 4) :=
  cl_F (C := CC K) (m := 2) (body := bActionOf K hK R) F scActionOf hm (FunD.bindsN F fun _ _ _ _ _ _ us hl => match us, hl with | [_, _], _ => rfl) rfl (fun _ _ => rfl) fun cdv A outer s H E hr2 W => (by
    have hr := hr2.mono (Nat.le_succ k)
    unfold bActionOf
    simp only [lActionOf1b, te_dVar, te_dPk, te_dKn, te_dLook, te_dLookN, te_dFrz, te_dOp, te_dB1, te_dRev, te_dIs, te_aNil, te_aD, te_aSt, te_dTup, te_dLst, te_dAnd, te_dOr, te_dNot, te_dNeg, te_dCh, te_tVal, te_tBl, te_tYes, te_tAn, te_tO, te_tNo, te_dIf, te_dSl, te_po0, te_po1, te_dCall, te_dCallX, te_iL, te_iLp, te_iT, te_iS, te_iR1, te_iR2, te_gN, te_gT, te_gs0, te_gs1, te_gNsl, te_gTsl, te_dLc, te_dSt, te_scrV, te_scrS, te_dScrL, te_dScrI, te_dXf, ts_sSet, ts_sTgt, ts_sNew, ts_sExpr, ts_sRet, ts_sRetN, ts_sSkip, ts_sBrk, ts_sCnt, ts_sIf, ts_sSeq, ts_sAug, ts_sApp, ts_sExt, ts_sPop, ts_sPopE, ts_sSetI, ts_sFrz, ts_sFor, ts_sWhile, ts_sRaise, ts_sStSet, ts_sNew2, te_dPk2, ts_sPop2, ts_sPush2, ts_sAppP, ts_sXl, ts_sXlA, te_xl0, te_xl1, te_dXo, te_dIsX, te_tPr, ts_s3Push, ts_s3New0, ts_s3New1, ts_s3App, te_dLen3, ts_s3Closed, te_dJoin, te_aV, ts_sFoldT, tFoldT, te_dIsXB, ts_sDkNew, ts_sDkPut, te_dDkSorted, te_cpf, te_cpn, ts_sPar2, ts_sPar3, ts_sCallPop, ts_sExtCallPop, te_dMax, ts_sPar3T, te_dDicS, te_tsTx0, te_tsTx1, te_dDicIx, te_dFld, ts_sFldSet, ts_sFldAdd, te_dMeth, te_dMethX, te_dWLen, te_dWName, ts_sWApp, ts_sWPop, ts_sWPush, ts_sWNew, ts_sOb, te_dTlNe, te_dTlPop, ts_sTlApp, ts_sTl, te_aLam, te_aFn, te_dCallC, te_dCallP, te_dCallV, ts_sFoldV, ts_sNdef, te_iRR, ts_sExtT, te_dOFld, te_dOMeth, te_dNew, tInit_1, tInit_2, te_dLIx, te_dLRg, te_dTRg, te_dMin, te_dBor, te_dInS, te_dNInS, ts_sSlApp, ts_sCallS, te_dSlNew, te_dTIx]
    exact (pss_cons (ps_set (i := 2) scActionOf.nd rfl (.inl rfl) (pe_cl c.Nothing hr (Nat.le_refl _) rfl (pa_cons (pv 0) pa_nil)))
      (pss_cons (ps_for PassesOwn.never rfl (pi_tup (pv 1)) (pg_name (i := 3) scActionOf.nd rfl (.inl rfl)) (pss_one (ps_set (i := 2) scActionOf.nd rfl (.inl rfl) (pe_cl c.Beside hr (Nat.le_refl _) rfl (pa_cons (pv 2) (pa_cons (pe_cl c.Single hr (Nat.le_refl _) rfl (pa_cons (pv 0) (pa_cons (pe_cm c.TableState hK.ocTable.cls hr (Nat.le_refl _) (pv 0) (pa_cons (pv 3) pa_nil)) pa_nil))) pa_nil))))))
      (pss_one (ps_ret (pv 2))))))
theorem okIsDocument (hK : KF K) (T : Tx K mg) (x : Xs P w K mg base) (hx : 3 ≤ k) (c : Cs P w K mg base k R) (F : Fd K "is_document" "is_document" sIsDocument f fd) (hm : mg "is_document" = some (.ref f)) : Cl P w K mg base CX0 (k + 2) "is_document" ["table", "action"] (spF (CC K) (step K hK R) 5) :=
  cl_F (C := CC K) (m := 0) (body := bIsDocument K hK R) F scIsDocument hm (FunD.bindsN F fun _ _ _ _ _ _ us hl => match us, hl with | [_, _], _ => rfl) rfl (fun _ _ => rfl) fun cdv A outer s H E hr2 W => (by
    have hr := hr2.mono (Nat.le_succ k)
    unfold bIsDocument
    simp only [te_dVar, te_dPk, te_dKn, te_dLook, te_dLookN, te_dFrz, te_dOp, te_dB1, te_dRev, te_dIs, te_aNil, te_aD, te_aSt, te_dTup, te_dLst, te_dAnd, te_dOr, te_dNot, te_dNeg, te_dCh, te_tVal, te_tBl, te_tYes, te_tAn, te_tO, te_tNo, te_dIf, te_dSl, te_po0, te_po1, te_dCall, te_dCallX, te_iL, te_iLp, te_iT, te_iS, te_iR1, te_iR2, te_gN, te_gT, te_gs0, te_gs1, te_gNsl, te_gTsl, te_dLc, te_dSt, te_scrV, te_scrS, te_dScrL, te_dScrI, te_dXf, ts_sSet, ts_sTgt, ts_sNew, ts_sExpr, ts_sRet, ts_sRetN, ts_sSkip, ts_sBrk, ts_sCnt, ts_sIf, ts_sSeq, ts_sAug, ts_sApp, ts_sExt, ts_sPop, ts_sPopE, ts_sSetI, ts_sFrz, ts_sFor, ts_sWhile, ts_sRaise, ts_sStSet, ts_sNew2, te_dPk2, ts_sPop2, ts_sPush2, ts_sAppP, ts_sXl, ts_sXlA, te_xl0, te_xl1, te_dXo, te_dIsX, te_tPr, ts_s3Push, ts_s3New0, ts_s3New1, ts_s3App, te_dLen3, ts_s3Closed, te_dJoin, te_aV, ts_sFoldT, tFoldT, te_dIsXB, ts_sDkNew, ts_sDkPut, te_dDkSorted, te_cpf, te_cpn, ts_sPar2, ts_sPar3, ts_sCallPop, ts_sExtCallPop, te_dMax, ts_sPar3T, te_dDicS, te_tsTx0, te_tsTx1, te_dDicIx, te_dFld, ts_sFldSet, ts_sFldAdd, te_dMeth, te_dMethX, te_dWLen, te_dWName, ts_sWApp, ts_sWPop, ts_sWPush, ts_sWNew, ts_sOb, te_dTlNe, te_dTlPop, ts_sTlApp, ts_sTl, te_aLam, te_aFn, te_dCallC, te_dCallP, te_dCallV, ts_sFoldV, ts_sNdef, te_iRR, ts_sExtT, te_dOFld, te_dOMeth, te_dNew, tInit_1, tInit_2, te_dLIx, te_dLRg, te_dTRg, te_dMin, te_dBor, te_dInS, te_dNInS, ts_sSlApp, ts_sCallS, te_dSlNew, te_dTIx]
    exact (pss_one (ps_ret (pe_and (pe_cmpR (op_eqW hr.unW) (pe_ix ix_tup (pe_ix ix_tup (pv 1) pe_int (fun _ _ => rfl)) pe_int (fun _ _ => rfl)) pe_str (nomark _)) (pe_one (pe_cmpR op_in_seq (pe_ix ix_tup (pe_ix ix_tup (pv 1) pe_int (fun _ _ => rfl)) pe_int (fun _ _ => rfl)) (pe_fld (pv 0) (by rfl)) (by rfl)))))))
theorem okFolded (hK : KF K) (T : Tx K mg) (x : Xs P w K mg base) (hx : 3 ≤ k) (c : Cs P w K mg base k R) (F : Fd K "folded" "folded" sFolded f fd) (hm : mg "folded" = some (.ref f)) : ClC P w K mg base CX0 (k + 2) "folded" ["tree", "make"] (spC (CC K) (step K hK R) 6) :=
  clc_F (C := CC K) (m := 4) (body := bFolded K hK R) F scFolded hm (FunD.bindsN F fun _ _ _ _ _ _ us hl => match us, hl with | [_, _], _ => rfl) rfl (fun _ _ => rfl) fun cdv A outer s H E hr2 W hC => (by
    have hr := hr2.mono (Nat.le_succ k)
    unfold bFolded
    simp only [lFolded1t, lFolded1b, te_dVar, te_dPk, te_dKn, te_dLook, te_dLookN, te_dFrz, te_dOp, te_dB1, te_dRev, te_dIs, te_aNil, te_aD, te_aSt, te_dTup, te_dLst, te_dAnd, te_dOr, te_dNot, te_dNeg, te_dCh, te_tVal, te_tBl, te_tYes, te_tAn, te_tO, te_tNo, te_dIf, te_dSl, te_po0, te_po1, te_dCall, te_dCallX, te_iL, te_iLp, te_iT, te_iS, te_iR1, te_iR2, te_gN, te_gT, te_gs0, te_gs1, te_gNsl, te_gTsl, te_dLc, te_dSt, te_scrV, te_scrS, te_dScrL, te_dScrI, te_dXf, ts_sSet, ts_sTgt, ts_sNew, ts_sExpr, ts_sRet, ts_sRetN, ts_sSkip, ts_sBrk, ts_sCnt, ts_sIf, ts_sSeq, ts_sAug, ts_sApp, ts_sExt, ts_sPop, ts_sPopE, ts_sSetI, ts_sFrz, ts_sFor, ts_sWhile, ts_sRaise, ts_sStSet, ts_sNew2, te_dPk2, ts_sPop2, ts_sPush2, ts_sAppP, ts_sXl, ts_sXlA, te_xl0, te_xl1, te_dXo, te_dIsX, te_tPr, ts_s3Push, ts_s3New0, ts_s3New1, ts_s3App, te_dLen3, ts_s3Closed, te_dJoin, te_aV, ts_sFoldT, tFoldT, te_dIsXB, ts_sDkNew, ts_sDkPut, te_dDkSorted, te_cpf, te_cpn, ts_sPar2, ts_sPar3, ts_sCallPop, ts_sExtCallPop, te_dMax, ts_sPar3T, te_dDicS, te_tsTx0, te_tsTx1, te_dDicIx, te_dFld, ts_sFldSet, ts_sFldAdd, te_dMeth, te_dMethX, te_dWLen, te_dWName, ts_sWApp, ts_sWPop, ts_sWPush, ts_sWNew, ts_sOb, te_dTlNe, te_dTlPop, ts_sTlApp, ts_sTl, te_aLam, te_aFn, te_dCallC, te_dCallP, te_dCallV, ts_sFoldV, ts_sNdef, te_iRR, ts_sExtT, te_dOFld, te_dOMeth, te_dNew, tInit_1, tInit_2, te_dLIx, te_dLRg, te_dTRg, te_dMin, te_dBor, te_dInS, te_dNInS, ts_sSlApp, ts_sCallS, te_dSlNew, te_dTIx]
    exact (pss_cons (ps_set (i := 2) scFolded.nd rfl (.inl rfl) (pe_lst (pa_cons (pe_tup (pa_cons (pv 0) (pa_cons (pe_lst pa_nil) pa_nil))) pa_nil)))
      (pss_one (ps_while PassesOwn.never (pt_val pe_bl) (pss_cons (ps_asg (pe_ix ix_list (pv 2) (pe_un un_neg pe_int) (fun _ _ => rfl)) (pg_tup rfl (pgs_cons (pg_name (i := 3) scFolded.nd rfl (.inl rfl)) (pgs_cons (pg_name (i := 4) scFolded.nd rfl (.inl rfl)) pgs_nil)))) (pss_one (ps_if (pt_cmpR op_lt (pe_callB call_len (by rfl) T.m_len PySem.boot_len (pa_cons (pv 4) pa_nil)) (pe_callB call_len (by rfl) T.m_len PySem.boot_len (pa_cons (pe_ix ix_tup (pv 3) pe_int (fun _ _ => rfl)) pa_nil)) (nomark _))
 (pss_one (ps_expr (pe_bm PySem.F.plainAttrs_list PySem.F.slot_list_append PySem.F.type_list_append mt_append (pv 2) (pa_cons (pe_tup (pa_cons (pe_ix ix_tup (pe_ix ix_tup (pv 3) pe_int (fun _ _ => rfl)) (pe_callB call_len (by rfl) T.m_len PySem.boot_len (pa_cons (pv 4) pa_nil)) (fun _ _ => rfl)) (pa_cons (pe_lst pa_nil) pa_nil))) pa_nil))))
 (pss_cons (ps_expr (pe_bm0 PySem.F.plainAttrs_list PySem.F.slot_list_pop PySem.F.type_list_pop mt_pop (pv 2))) (pss_cons (ps_set (i := 5) scFolded.nd rfl (.inl rfl) (pe_callV (pss := pss) (fun j hj c' => c.wok j hj _ c') (fun j hj c' => wcl j hj _ c') hr (Nat.le_refl _) pass0 hC rfl (n := 1) rfl (.inl rfl) (pa_cons (pe_ix ix_tup (pv 3) pe_int (fun _ _ => rfl)) (pa_cons (pv 4) pa_nil)))) (pss_cons (ps_if (pt_cmpR (op_eqW hr.unW) (pe_callB call_len (by rfl) T.m_len PySem.boot_len (pa_cons (pv 2) pa_nil)) pe_int (nomark _)) (pss_one (ps_ret (pv 5))) pss_nil)
      (pss_one (ps_expr (pe_bm PySem.F.plainAttrs_list PySem.F.slot_list_append PySem.F.type_list_append mt_append (pe_ix ix_tup (pe_ix ix_list (pv 2) (pe_un un_neg pe_int) (fun _ _ => rfl)) pe_int (fun _ _ => rfl)) (pa_cons (pv 5) pa_nil))))))))))))))
theorem okStateOf (hK : KF K) (T : Tx K mg) (x : Xs P w K mg base) (hx : 3 ≤ k) (c : Cs P w K mg base k R) (tb : Tb K mg base) (F : Fd K "state_of" "state_of" sStateOf (He.fAd K ("state_of", none)) fd) (hm : mg "state_of" = some (.ref (He.fAd K ("state_of", none)))) : Cl P w K mg base CX0 (k + 2) "state_of" ["machine", "tree"] (spF (CC K) (step K hK R) 7) :=
  cl_M (C := CC K) (m := 1) (body := bStateOf K hK R) F scStateOf hm (FunD.bindsN F fun _ _ _ _ _ _ us hl => match us, hl with | [_, _], _ => rfl) rfl (fun _ _ => rfl) fun A outer s H E hr2 W => (by
    have hr := hr2.mono (Nat.le_succ k)
    unfold bStateOf
    simp only [te_dVar, te_dPk, te_dKn, te_dLook, te_dLookN, te_dFrz, te_dOp, te_dB1, te_dRev, te_dIs, te_aNil, te_aD, te_aSt, te_dTup, te_dLst, te_dAnd, te_dOr, te_dNot, te_dNeg, te_dCh, te_tVal, te_tBl, te_tYes, te_tAn, te_tO, te_tNo, te_dIf, te_dSl, te_po0, te_po1, te_dCall, te_dCallX, te_iL, te_iLp, te_iT, te_iS, te_iR1, te_iR2, te_gN, te_gT, te_gs0, te_gs1, te_gNsl, te_gTsl, te_dLc, te_dSt, te_scrV, te_scrS, te_dScrL, te_dScrI, te_dXf, ts_sSet, ts_sTgt, ts_sNew, ts_sExpr, ts_sRet, ts_sRetN, ts_sSkip, ts_sBrk, ts_sCnt, ts_sIf, ts_sSeq, ts_sAug, ts_sApp, ts_sExt, ts_sPop, ts_sPopE, ts_sSetI, ts_sFrz, ts_sFor, ts_sWhile, ts_sRaise, ts_sStSet, ts_sNew2, te_dPk2, ts_sPop2, ts_sPush2, ts_sAppP, ts_sXl, ts_sXlA, te_xl0, te_xl1, te_dXo, te_dIsX, te_tPr, ts_s3Push, ts_s3New0, ts_s3New1, ts_s3App, te_dLen3, ts_s3Closed, te_dJoin, te_aV, ts_sFoldT, tFoldT, te_dIsXB, ts_sDkNew, ts_sDkPut, te_dDkSorted, te_cpf, te_cpn, ts_sPar2, ts_sPar3, ts_sCallPop, ts_sExtCallPop, te_dMax, ts_sPar3T, te_dDicS, te_tsTx0, te_tsTx1, te_dDicIx, te_dFld, ts_sFldSet, ts_sFldAdd, te_dMeth, te_dMethX, te_dWLen, te_dWName, ts_sWApp, ts_sWPop, ts_sWPush, ts_sWNew, ts_sOb, te_dTlNe, te_dTlPop, ts_sTlApp, ts_sTl, te_aLam, te_aFn, te_dCallC, te_dCallP, te_dCallV, ts_sFoldV, ts_sNdef, te_iRR, ts_sExtT, te_dOFld, te_dOMeth, te_dNew, tInit_1, tInit_2, te_dLIx, te_dLRg, te_dTRg, te_dMin, te_dBor, te_dInS, te_dNInS, ts_sSlApp, ts_sCallS, te_dSlNew, te_dTIx]
    exact (pss_cons (NdefX.ps_ndefMS (st := pStateOfF0) (i := 2) rfl tb.StateOf rfl (in_StateOf K) rfl (one_StateOf hK.tn) (NdefX.ndef_free nd_StateOfF0) rfl rfl rfl scStateOf.nd rfl (.inl rfl) (.inr rfl))
      (pss_one (ps_ret (pe_clC c.Folded hr (Nat.le_refl _) rfl (caps_by nd_StateOfF0 rfl) (fun _ => rfl) (pa_cons (pv 1) (pa_cons (pv 2) pa_nil)))))))
theorem okLawDraw (hK : KF K) (T : Tx K mg) (x : Xs P w K mg base) (hx : 3 ≤ k) (c : Cs P w K mg base k R) (F : Fd K "_law_draw" "_law_draw" sLawDraw f fd) (hm : mg "_law_draw" = some (.ref f)) : Cl P w K mg base CX0 (k + 2) "_law_draw" ["state", "script", "size"] (spF (CC K) (step K hK R) 13) :=
  cl_F (C := CC K) (m := 3) (body := bLawDraw K hK R) F scLawDraw hm (FunD.bindsN F fun _ _ _ _ _ _ us hl => match us, hl with | [_, _, _], _ => rfl) rfl (fun _ _ => rfl) fun cdv A outer s H E hr2 W => (by
    have hr := hr2.mono (Nat.le_succ k)
    unfold bLawDraw
    simp only [te_dVar, te_dPk, te_dKn, te_dLook, te_dLookN, te_dFrz, te_dOp, te_dB1, te_dRev, te_dIs, te_aNil, te_aD, te_aSt, te_dTup, te_dLst, te_dAnd, te_dOr, te_dNot, te_dNeg, te_dCh, te_tVal, te_tBl, te_tYes, te_tAn, te_tO, te_tNo, te_dIf, te_dSl, te_po0, te_po1, te_dCall, te_dCallX, te_iL, te_iLp, te_iT, te_iS, te_iR1, te_iR2, te_gN, te_gT, te_gs0, te_gs1, te_gNsl, te_gTsl, te_dLc, te_dSt, te_scrV, te_scrS, te_dScrL, te_dScrI, te_dXf, ts_sSet, ts_sTgt, ts_sNew, ts_sExpr, ts_sRet, ts_sRetN, ts_sSkip, ts_sBrk, ts_sCnt, ts_sIf, ts_sSeq, ts_sAug, ts_sApp, ts_sExt, ts_sPop, ts_sPopE, ts_sSetI, ts_sFrz, ts_sFor, ts_sWhile, ts_sRaise, ts_sStSet, ts_sNew2, te_dPk2, ts_sPop2, ts_sPush2, ts_sAppP, ts_sXl, ts_sXlA, te_xl0, te_xl1, te_dXo, te_dIsX, te_tPr, ts_s3Push, ts_s3New0, ts_s3New1, ts_s3App, te_dLen3, ts_s3Closed, te_dJoin, te_aV, ts_sFoldT, tFoldT, te_dIsXB, ts_sDkNew, ts_sDkPut, te_dDkSorted, te_cpf, te_cpn, ts_sPar2, ts_sPar3, ts_sCallPop, ts_sExtCallPop, te_dMax, ts_sPar3T, te_dDicS, te_tsTx0, te_tsTx1, te_dDicIx, te_dFld, ts_sFldSet, ts_sFldAdd, te_dMeth, te_dMethX, te_dWLen, te_dWName, ts_sWApp, ts_sWPop, ts_sWPush, ts_sWNew, ts_sOb, te_dTlNe, te_dTlPop, ts_sTlApp, ts_sTl, te_aLam, te_aFn, te_dCallC, te_dCallP, te_dCallV, ts_sFoldV, ts_sNdef, te_iRR, ts_sExtT, te_dOFld, te_dOMeth, te_dNew, tInit_1, tInit_2, te_dLIx, te_dLRg, te_dTRg, te_dMin, te_dBor, te_dInS, te_dNInS, ts_sSlApp, ts_sCallS, te_dSlNew, te_dTIx]
    exact (pss_cons (ps_if (pt_cmpR (op_eqW hr.unW) (pe_ix ix_list (pv 0) pe_int (fun _ _ => rfl)) pe_int (nomark _)) (pss_cons (ps_set (i := 3) scLawDraw.nd rfl (.inl rfl) pe_int)
      (pss_cons (ps_if (pt_cmpR op_gt (pe_callB call_len (by rfl) T.m_len PySem.boot_len (pa_cons (pv 1) pa_nil)) pe_int (nomark _)) (pss_one (ps_set (i := 3) scLawDraw.nd rfl (.inl rfl) (pe_ix ix_list (pv 1) (pe_op op_mod (pe_ix ix_list (pv 0) pe_int (fun _ _ => rfl)) (pe_callB call_len (by rfl) T.m_len PySem.boot_len (pa_cons (pv 1) pa_nil))) (fun _ _ => rfl)))) pss_nil)
      (pss_cons (ps_if (pt_cmpR op_lt (pv 3) pe_int (nomark _)) (pss_one (ps_set (i := 3) scLawDraw.nd rfl (.inl rfl) (pe_op op_sub pe_int (pe_op op_mul pe_int (pv 3))))) pss_nil)
      (pss_cons (ps_set (i := 4) scLawDraw.nd rfl (.inl rfl) (pe_op op_mod (pe_callTy call_int1 (by rfl) T.m_int PyProof.Rows.boot_int (pa_cons (pe_op op_mul (pe_op op_add (pe_op op_add (pv 3) (pe_op op_mul (pe_ix ix_list (pv 0) pe_int (fun _ _ => rfl)) pe_int)) pe_int) pe_int) pa_nil)) pe_int))
      (pss_cons (ps_asg (pe_op op_mod (pe_callTy call_int1 (by rfl) T.m_int PyProof.Rows.boot_int (pa_cons (pe_op op_add (pe_op op_mul (pv 4) pe_int) (pe_op op_mul (pe_ix ix_list (pv 0) pe_int (fun _ _ => rfl)) pe_int)) pa_nil)) pe_int) (pg_sub (pv 0) pe_int set_list))
      (pss_cons (ps_if (PW.pt (pw_and (pt_cmpR op_ge (pv 3) (pe_op op_pow pe_int pe_int) (nomark _)) (pw_and1 (pt_cmpR op_lt (pe_ix ix_list (pv 0) pe_int (fun _ _ => rfl)) (pe_callB call_len (by rfl) T.m_len PySem.boot_len (pa_cons (pv 1) pa_nil)) (nomark _))))) (pss_one (ps_asg (pv 3) (pg_sub (pv 0) pe_int set_list))) pss_nil)
      (pss_one (ps_asg (pe_op op_add (pe_ix ix_list (pv 0) pe_int (fun _ _ => rfl)) pe_int) (pg_sub (pv 0) pe_int set_list))))))))) pss_nil)
      (pss_cons (ps_set (i := 5) scLawDraw.nd rfl (.inl rfl) (pe_op op_mod (pe_callTy call_int1 (by rfl) T.m_int PyProof.Rows.boot_int (pa_cons (pe_ix ix_list (pv 0) pe_int (fun _ _ => rfl)) pa_nil)) (pv 2)))
      (pss_cons (ps_asg (pe_op op_fdiv (pe_ix ix_list (pv 0) pe_int (fun _ _ => rfl)) (pv 2)) (pg_sub (pv 0) pe_int set_list))
      (pss_one (ps_ret (pv 5)))))))
theorem okLawSomeTree (hK : KF K) (T : Tx K mg) (x : Xs P w K mg base) (hx : 3 ≤ k) (c : Cs P w K mg base k R) (F : Fd K "_law_some_tree" "_law_some_tree" sLawSomeTree f fd) (hm : mg "_law_some_tree" = some (.ref f)) : Cl P w K mg base CX0 (k + 2) "_law_some_tree" ["state", "script", "names", "left"] (spF (CC K) (step K hK R) 14) :=
  cl_F (C := CC K) (m := 3) (body := bLawSomeTree K hK R) F scLawSomeTree hm (FunD.bindsN F fun _ _ _ _ _ _ us hl => match us, hl with | [_, _, _, _], _ => rfl) rfl (fun _ _ => rfl) fun cdv A outer s H E hr2 W => (by
    have hr := hr2.mono (Nat.le_succ k)
    unfold bLawSomeTree
    simp only [lLawSomeTree1t, lLawSomeTree1b, te_dVar, te_dPk, te_dKn, te_dLook, te_dLookN, te_dFrz, te_dOp, te_dB1, te_dRev, te_dIs, te_aNil, te_aD, te_aSt, te_dTup, te_dLst, te_dAnd, te_dOr, te_dNot, te_dNeg, te_dCh, te_tVal, te_tBl, te_tYes, te_tAn, te_tO, te_tNo, te_dIf, te_dSl, te_po0, te_po1, te_dCall, te_dCallX, te_iL, te_iLp, te_iT, te_iS, te_iR1, te_iR2, te_gN, te_gT, te_gs0, te_gs1, te_gNsl, te_gTsl, te_dLc, te_dSt, te_scrV, te_scrS, te_dScrL, te_dScrI, te_dXf, ts_sSet, ts_sTgt, ts_sNew, ts_sExpr, ts_sRet, ts_sRetN, ts_sSkip, ts_sBrk, ts_sCnt, ts_sIf, ts_sSeq, ts_sAug, ts_sApp, ts_sExt, ts_sPop, ts_sPopE, ts_sSetI, ts_sFrz, ts_sFor, ts_sWhile, ts_sRaise, ts_sStSet, ts_sNew2, te_dPk2, ts_sPop2, ts_sPush2, ts_sAppP, ts_sXl, ts_sXlA, te_xl0, te_xl1, te_dXo, te_dIsX, te_tPr, ts_s3Push, ts_s3New0, ts_s3New1, ts_s3App, te_dLen3, ts_s3Closed, te_dJoin, te_aV, ts_sFoldT, tFoldT, te_dIsXB, ts_sDkNew, ts_sDkPut, te_dDkSorted, te_cpf, te_cpn, ts_sPar2, ts_sPar3, ts_sCallPop, ts_sExtCallPop, te_dMax, ts_sPar3T, te_dDicS, te_tsTx0, te_tsTx1, te_dDicIx, te_dFld, ts_sFldSet, ts_sFldAdd, te_dMeth, te_dMethX, te_dWLen, te_dWName, ts_sWApp, ts_sWPop, ts_sWPush, ts_sWNew, ts_sOb, te_dTlNe, te_dTlPop, ts_sTlApp, ts_sTl, te_aLam, te_aFn, te_dCallC, te_dCallP, te_dCallV, ts_sFoldV, ts_sNdef, te_iRR, ts_sExtT, te_dOFld, te_dOMeth, te_dNew, tInit_1, tInit_2, te_dLIx, te_dLRg, te_dTRg, te_dMin, te_dBor, te_dInS, te_dNInS, ts_sSlApp, ts_sCallS, te_dSlNew, te_dTIx]
    exact (pss_cons (ps_set (i := 4) scLawSomeTree.nd rfl (.inl rfl) (pe_ix ix_list (pv 2) (pe_cl c.LawDraw hr (Nat.le_refl _) rfl (pa_cons (pv 0) (pa_cons (pv 1) (pa_cons (pe_callB call_len (by rfl) T.m_len PySem.boot_len (pa_cons (pv 2) pa_nil)) pa_nil)))) (fun _ _ => rfl)))
      (pss_cons (ps_set (i := 3) scLawSomeTree.nd rfl (.inl rfl) (pe_op op_sub (pv 3) pe_int))
      (pss_cons (ps_set (i := 5) scLawSomeTree.nd rfl (.inl rfl) (pe_lst pa_nil))
      (pss_cons (ps_while PassesOwn.never (PW.pt (pw_and (pt_cmpR op_gt (pv 3) pe_int (nomark _)) (pw_and1 (pt_cmpR op_gt (pe_cl c.LawDraw hr (Nat.le_refl _) rfl (pa_cons (pv 0) (pa_cons (pv 1) (pa_cons pe_int pa_nil)))) pe_int (nomark _))))) (pss_cons (ps_set (i := 6) scLawSomeTree.nd rfl (.inl rfl) (pe_cl c.LawSomeTree hr (Nat.le_refl _) rfl (pa_cons (pv 0) (pa_cons (pv 1) (pa_cons (pv 2) (pa_cons (pe_op op_add pe_int (pe_cl c.LawDraw hr (Nat.le_refl _) rfl (pa_cons (pv 0) (pa_cons (pv 1) (pa_cons (pv 3) pa_nil))))) pa_nil))))))
      (pss_cons (ps_expr (pe_bm PySem.F.plainAttrs_list PySem.F.slot_list_append PySem.F.type_list_append mt_append (pv 5) (pa_cons (pv 6) pa_nil)))
      (pss_one (ps_set (i := 3) scLawSomeTree.nd rfl (.inl rfl) (pe_op op_sub (pv 3) (pe_cl c.LawSize hr (Nat.le_refl _) rfl (pa_cons (pv 6) pa_nil))))))))
      (pss_one (ps_ret (Tn.pe_tupN (pa_cons (pv 4) (pa_cons (pe_callTy Tn.call_tupleN (by rfl) T.m_tuple PyProof.Rows.boot_tuple (pa_cons (pv 5) pa_nil)) pa_nil))))))))))
theorem okLawSize (hK : KF K) (T : Tx K mg) (x : Xs P w K mg base) (hx : 3 ≤ k) (c : Cs P w K mg base k R) (F : Fd K "_law_size" "_law_size" sLawSize f fd) (hm : mg "_law_size" = some (.ref f)) : Cl P w K mg base CX0 (k + 2) "_law_size" ["tree"] (spF (CC K) (step K hK R) 15) :=
  cl_F (C := CC K) (m := 1) (body := bLawSize K hK R) F scLawSize hm (FunD.bindsN F fun _ _ _ _ _ _ us hl => match us, hl with | [_], _ => rfl) rfl (fun _ _ => rfl) fun cdv A outer s H E hr2 W => (by
    have hr := hr2.mono (Nat.le_succ k)
    unfold bLawSize
    simp only [te_dVar, te_dPk, te_dKn, te_dLook, te_dLookN, te_dFrz, te_dOp, te_dB1, te_dRev, te_dIs, te_aNil, te_aD, te_aSt, te_dTup, te_dLst, te_dAnd, te_dOr, te_dNot, te_dNeg, te_dCh, te_tVal, te_tBl, te_tYes, te_tAn, te_tO, te_tNo, te_dIf, te_dSl, te_po0, te_po1, te_dCall, te_dCallX, te_iL, te_iLp, te_iT, te_iS, te_iR1, te_iR2, te_gN, te_gT, te_gs0, te_gs1, te_gNsl, te_gTsl, te_dLc, te_dSt, te_scrV, te_scrS, te_dScrL, te_dScrI, te_dXf, ts_sSet, ts_sTgt, ts_sNew, ts_sExpr, ts_sRet, ts_sRetN, ts_sSkip, ts_sBrk, ts_sCnt, ts_sIf, ts_sSeq, ts_sAug, ts_sApp, ts_sExt, ts_sPop, ts_sPopE, ts_sSetI, ts_sFrz, ts_sFor, ts_sWhile, ts_sRaise, ts_sStSet, ts_sNew2, te_dPk2, ts_sPop2, ts_sPush2, ts_sAppP, ts_sXl, ts_sXlA, te_xl0, te_xl1, te_dXo, te_dIsX, te_tPr, ts_s3Push, ts_s3New0, ts_s3New1, ts_s3App, te_dLen3, ts_s3Closed, te_dJoin, te_aV, ts_sFoldT, tFoldT, te_dIsXB, ts_sDkNew, ts_sDkPut, te_dDkSorted, te_cpf, te_cpn, ts_sPar2, ts_sPar3, ts_sCallPop, ts_sExtCallPop, te_dMax, ts_sPar3T, te_dDicS, te_tsTx0, te_tsTx1, te_dDicIx, te_dFld, ts_sFldSet, ts_sFldAdd, te_dMeth, te_dMethX, te_dWLen, te_dWName, ts_sWApp, ts_sWPop, ts_sWPush, ts_sWNew, ts_sOb, te_dTlNe, te_dTlPop, ts_sTlApp, ts_sTl, te_aLam, te_aFn, te_dCallC, te_dCallP, te_dCallV, ts_sFoldV, ts_sNdef, te_iRR, ts_sExtT, te_dOFld, te_dOMeth, te_dNew, tInit_1, tInit_2, te_dLIx, te_dLRg, te_dTRg, te_dMin, te_dBor, te_dInS, te_dNInS, ts_sSlApp, ts_sCallS, te_dSlNew, te_dTIx]
    exact (pss_one (ps_ret (pe_op op_add pe_int (pe_callB (cr_sum rfl) (by rfl) T.m_sum PyProof.Rows.boot_sum (pa_cons (pe_lc (own := [("child", 1)]) rfl scLawSize.nd (pi_tup (pe_ix ix_tup (pv 0) pe_int (fun _ _ => rfl))) (blkOk_by (N := ["tree", "child"]) (sc := (defScope sLawSize)) (by decide +kernel)) (fun _ _ _ _ _ => (pg_name (i := 1) scLawSize.nd rfl (.inl rfl))) (fun _ _ _ _ _ => pts_nil) (fun _ _ _ _ _ => (pe_cl c.LawSize hr (Nat.le_refl _) rfl (pa_cons (pv 1) pa_nil)))) pa_nil))))))
theorem okLawTable (hK : KF K) (T : Tx K mg) (x : Xs P w K mg base) (hx : 3 ≤ k) (c : Cs P w K mg base k R) (F : Fd K "_law_table" "_law_table" sLawTable f fd) (hm : mg "_law_table" = some (.ref f)) : Cl P w K mg base CX0 (k + 2) "_law_table" ["state", "script", "names"] (spF (CC K) (step K hK R) 16) :=
  cl_F (C := CC K) (m := 10) (body := bLawTable K hK R) F scLawTable hm (FunD.bindsN F fun _ _ _ _ _ _ us hl => match us, hl with | [_, _, _], _ => rfl) rfl (fun _ _ => rfl) fun cdv A outer s H E hr2 W => (by
    have hr := hr2.mono (Nat.le_succ k)
    unfold bLawTable
    simp only [lLawTable1b, lLawTable2b, te_dVar, te_dPk, te_dKn, te_dLook, te_dLookN, te_dFrz, te_dOp, te_dB1, te_dRev, te_dIs, te_aNil, te_aD, te_aSt, te_dTup, te_dLst, te_dAnd, te_dOr, te_dNot, te_dNeg, te_dCh, te_tVal, te_tBl, te_tYes, te_tAn, te_tO, te_tNo, te_dIf, te_dSl, te_po0, te_po1, te_dCall, te_dCallX, te_iL, te_iLp, te_iT, te_iS, te_iR1, te_iR2, te_gN, te_gT, te_gs0, te_gs1, te_gNsl, te_gTsl, te_dLc, te_dSt, te_scrV, te_scrS, te_dScrL, te_dScrI, te_dXf, ts_sSet, ts_sTgt, ts_sNew, ts_sExpr, ts_sRet, ts_sRetN, ts_sSkip, ts_sBrk, ts_sCnt, ts_sIf, ts_sSeq, ts_sAug, ts_sApp, ts_sExt, ts_sPop, ts_sPopE, ts_sSetI, ts_sFrz, ts_sFor, ts_sWhile, ts_sRaise, ts_sStSet, ts_sNew2, te_dPk2, ts_sPop2, ts_sPush2, ts_sAppP, ts_sXl, ts_sXlA, te_xl0, te_xl1, te_dXo, te_dIsX, te_tPr, ts_s3Push, ts_s3New0, ts_s3New1, ts_s3App, te_dLen3, ts_s3Closed, te_dJoin, te_aV, ts_sFoldT, tFoldT, te_dIsXB, ts_sDkNew, ts_sDkPut, te_dDkSorted, te_cpf, te_cpn, ts_sPar2, ts_sPar3, ts_sCallPop, ts_sExtCallPop, te_dMax, ts_sPar3T, te_dDicS, te_tsTx0, te_tsTx1, te_dDicIx, te_dFld, ts_sFldSet, ts_sFldAdd, te_dMeth, te_dMethX, te_dWLen, te_dWName, ts_sWApp, ts_sWPop, ts_sWPush, ts_sWNew, ts_sOb, te_dTlNe, te_dTlPop, ts_sTlApp, ts_sTl, te_aLam, te_aFn, te_dCallC, te_dCallP, te_dCallV, ts_sFoldV, ts_sNdef, te_iRR, ts_sExtT, te_dOFld, te_dOMeth, te_dNew, tInit_1, tInit_2, te_dLIx, te_dLRg, te_dTRg, te_dMin, te_dBor, te_dInS, te_dNInS, ts_sSlApp, ts_sCallS, te_dSlNew, te_dTIx]
    exact (pss_cons (ps_set (i := 3) scLawTable.nd rfl (.inl rfl) (pe_op op_add pe_int (pe_cl c.LawDraw hr (Nat.le_refl _) rfl (pa_cons (pv 0) (pa_cons (pv 1) (pa_cons pe_int pa_nil))))))
      (pss_cons (ps_set (i := 4) scLawTable.nd rfl (.inl rfl) (pe_lst pa_nil))
      (pss_cons (ps_set (i := 5) scLawTable.nd rfl (.inl rfl) (pe_lst pa_nil))
      (pss_cons (ps_set (i := 6) scLawTable.nd rfl (.inl rfl) (pe_lst pa_nil))
      (pss_cons (ps_for PassesOwn.never rfl (pi_list (pe_callB cr_sortedS (by rfl) T.m_sorted PyProof.Rows.boot_sorted (pa_cons (pv 2) pa_nil))) (pg_name (i := 7) scLawTable.nd rfl (.inl rfl)) (pss_cons (ps_set (i := 8) scLawTable.nd rfl (.inr rfl) (pe_callB call_len (by rfl) T.m_len PySem.boot_len (pa_cons (pv 5) pa_nil)))
      (pss_cons (ps_set (i := 9) scLawTable.nd rfl (.inr rfl) (pe_op op_add pe_int (pe_cl c.LawDraw hr (Nat.le_refl _) rfl (pa_cons (pv 0) (pa_cons (pv 1) (pa_cons pe_int pa_nil))))))
      (pss_cons (ps_expr (pe_bm PySem.F.plainAttrs_list PySem.F.slot_list_append PySem.F.type_list_append mt_append (pv 4) (pa_cons (pe_op op_add (pv 8) (pe_cl c.LawDraw hr (Nat.le_refl _) rfl (pa_cons (pv 0) (pa_cons (pv 1) (pa_cons (pv 9) pa_nil))))) pa_nil)))
      (pss_one (ps_for PassesOwn.never rfl (pi_range1 (by rfl) T.m_range (pa_cons (pv 9) pa_nil)) (pg_name (i := 10) scLawTable.nd rfl (.inl rfl)) (pss_cons (ps_expr (pe_bm PySem.F.plainAttrs_list PySem.F.slot_list_append PySem.F.type_list_append mt_append (pv 5) (pa_cons (pe_callTy Tn.call_tupleN (by rfl) T.m_tuple PyProof.Rows.boot_tuple (pa_cons (pe_lc (own := [("one", 12)]) rfl scLawTable.nd (pi_range1 (by rfl) T.m_range (pa_cons (pv 3) pa_nil)) (blkOk_by (N := ["state", "script", "names", "many", "begins", "steps", "finishes", "name", "first", "places", "k", "accepts", "one"]) (sc := (defScope sLawTable)) (by decide +kernel)) (fun _ _ _ _ _ => (pg_name (i := 12) scLawTable.nd rfl (.inl rfl))) (fun _ _ _ _ _ => pts_nil) (fun _ _ _ _ _ => (pe_op op_add (pv 8) (pe_cl c.LawDraw hr (Nat.le_refl _) rfl (pa_cons (pv 0) (pa_cons (pv 1) (pa_cons (pv 9) pa_nil))))))) pa_nil)) pa_nil)))
      (pss_one (ps_expr (pe_bm PySem.F.plainAttrs_list PySem.F.slot_list_append PySem.F.type_list_append mt_append (pv 6) (pa_cons (pe_cl c.LawDraw hr (Nat.le_refl _) rfl (pa_cons (pv 0) (pa_cons (pv 1) (pa_cons (pv 3) pa_nil)))) pa_nil)))))))))))
      (pss_cons (ps_setLc (i := 11) (own := [("k", 10)]) rfl scLawTable.nd rfl rfl (sw_true rfl rfl rfl (by decide +kernel)) (pi_range1 (by rfl) T.m_range (pa_cons (pv 3) pa_nil)) (blkOk_by (N := ["state", "script", "names", "many", "begins", "steps", "finishes", "name", "first", "places", "k", "accepts", "one"]) (sc := (defScope sLawTable)) (by decide +kernel)) (fun _ _ _ _ _ => (pg_name (i := 10) scLawTable.nd rfl (.inl rfl))) (fun _ _ _ _ _ => (pts_one (pt_cmpR (op_eqW hr.unW) (pe_cl c.LawDraw hr (Nat.le_refl _) rfl (pa_cons (pv 0) (pa_cons (pv 1) (pa_cons pe_int pa_nil)))) pe_int (nomark _)))) (fun _ _ _ _ _ => (pv 10)))
      (pss_one (ps_ret (Tn.pe_tupN (pa_cons (pe_callTy Tn.call_tupleN (by rfl) T.m_tuple PyProof.Rows.boot_tuple (pa_cons (pe_callB cr_sortedS (by rfl) T.m_sorted PyProof.Rows.boot_sorted (pa_cons (pv 2) pa_nil)) pa_nil)) (pa_cons (pe_callTy Tn.call_tupleN (by rfl) T.m_tuple PyProof.Rows.boot_tuple (pa_cons (pv 4) pa_nil)) (pa_cons (pe_callTy Tn.call_tupleN (by rfl) T.m_tuple PyProof.Rows.boot_tuple (pa_cons (pv 5) pa_nil)) (pa_cons (pe_callTy Tn.call_tupleN (by rfl) T.m_tuple PyProof.Rows.boot_tuple (pa_cons (pv 6) pa_nil)) (pa_cons (pe_callTy Tn.call_tupleN (by rfl) T.m_tuple PyProof.Rows.boot_tuple (pa_cons (pv 11) pa_nil)) pa_nil)))))))))))))))
theorem okLawState (hK : KF K) (T : Tx K mg) (x : Xs P w K mg base) (hx : 3 ≤ k) (c : Cs P w K mg base k R) (F : Fd K "_law_state" "_law_state" sLawState f fd) (hm : mg "_law_state" = some (.ref f)) : Cl P w K mg base CX0 (k + 2) "_law_state" ["table", "tree"] (spF (CC K) (step K hK R) 17) :=
  cl_F (C := CC K) (m := 2) (body := bLawState K hK R) F scLawState hm (FunD.bindsN F fun _ _ _ _ _ _ us hl => match us, hl with | [_, _], _ => rfl) rfl (fun _ _ => rfl) fun cdv A outer s H E hr2 W => (by
    have hr := hr2.mono (Nat.le_succ k)
    unfold bLawState
    simp only [lLawState1b, te_dVar, te_dPk, te_dKn, te_dLook, te_dLookN, te_dFrz, te_dOp, te_dB1, te_dRev, te_dIs, te_aNil, te_aD, te_aSt, te_dTup, te_dLst, te_dAnd, te_dOr, te_dNot, te_dNeg, te_dCh, te_tVal, te_tBl, te_tYes, te_tAn, te_tO, te_tNo, te_dIf, te_dSl, te_po0, te_po1, te_dCall, te_dCallX, te_iL, te_iLp, te_iT, te_iS, te_iR1, te_iR2, te_gN, te_gT, te_gs0, te_gs1, te_gNsl, te_gTsl, te_dLc, te_dSt, te_scrV, te_scrS, te_dScrL, te_dScrI, te_dXf, ts_sSet, ts_sTgt, ts_sNew, ts_sExpr, ts_sRet, ts_sRetN, ts_sSkip, ts_sBrk, ts_sCnt, ts_sIf, ts_sSeq, ts_sAug, ts_sApp, ts_sExt, ts_sPop, ts_sPopE, ts_sSetI, ts_sFrz, ts_sFor, ts_sWhile, ts_sRaise, ts_sStSet, ts_sNew2, te_dPk2, ts_sPop2, ts_sPush2, ts_sAppP, ts_sXl, ts_sXlA, te_xl0, te_xl1, te_dXo, te_dIsX, te_tPr, ts_s3Push, ts_s3New0, ts_s3New1, ts_s3App, te_dLen3, ts_s3Closed, te_dJoin, te_aV, ts_sFoldT, tFoldT, te_dIsXB, ts_sDkNew, ts_sDkPut, te_dDkSorted, te_cpf, te_cpn, ts_sPar2, ts_sPar3, ts_sCallPop, ts_sExtCallPop, te_dMax, ts_sPar3T, te_dDicS, te_tsTx0, te_tsTx1, te_dDicIx, te_dFld, ts_sFldSet, ts_sFldAdd, te_dMeth, te_dMethX, te_dWLen, te_dWName, ts_sWApp, ts_sWPop, ts_sWPush, ts_sWNew, ts_sOb, te_dTlNe, te_dTlPop, ts_sTlApp, ts_sTl, te_aLam, te_aFn, te_dCallC, te_dCallP, te_dCallV, ts_sFoldV, ts_sNdef, te_iRR, ts_sExtT, te_dOFld, te_dOMeth, te_dNew, tInit_1, tInit_2, te_dLIx, te_dLRg, te_dTRg, te_dMin, te_dBor, te_dInS, te_dNInS, ts_sSlApp, ts_sCallS, te_dSlNew, te_dTIx]
    exact (pss_cons (ps_set (i := 2) scLawState.nd rfl (.inl rfl) (pe_ix ix_tup (pe_ix ix_tup (pv 0) pe_int (fun _ _ => rfl)) (Tn.pe_tbm PySem.F.slot_tuple_index PySem.F.type_tuple_index mt_tup_index (pe_ix ix_tup (pv 0) pe_int (fun _ _ => rfl)) (pa_cons (pe_ix ix_tup (pv 1) pe_int (fun _ _ => rfl)) pa_nil)) (fun _ _ => rfl)))
      (pss_cons (ps_for PassesOwn.never rfl (pi_tup (pe_ix ix_tup (pv 1) pe_int (fun _ _ => rfl))) (pg_name (i := 3) scLawState.nd rfl (.inl rfl)) (pss_one (ps_set (i := 2) scLawState.nd rfl (.inl rfl) (pe_ix ix_tup (pe_ix ix_tup (pe_ix ix_tup (pv 0) pe_int (fun _ _ => rfl)) (pv 2) (fun _ _ => rfl)) (pe_cl c.LawState hr (Nat.le_refl _) rfl (pa_cons (pv 0) (pa_cons (pv 3) pa_nil))) (fun _ _ => rfl)))))
      (pss_one (ps_ret (pe_ix ix_tup (pe_ix ix_tup (pv 0) pe_int (fun _ _ => rfl)) (pv 2) (fun _ _ => rfl)))))))
theorem okLawAction (hK : KF K) (T : Tx K mg) (x : Xs P w K mg base) (hx : 3 ≤ k) (c : Cs P w K mg base k R) (F : Fd K "_law_action" "_law_action" sLawAction f fd) (hm : mg "_law_action" = some (.ref f)) : Cl P w K mg base CX0 (k + 2) "_law_action" ["table", "row"] (spF (CC K) (step K hK R) 18) :=
  cl_F (C := CC K) (m := 4) (body := bLawAction K hK R) F scLawAction hm (FunD.bindsN F fun _ _ _ _ _ _ us hl => match us, hl with | [_, _], _ => rfl) rfl (fun _ _ => rfl) fun cdv A outer s H E hr2 W => (by
    have hr := hr2.mono (Nat.le_succ k)
    unfold bLawAction
    simp only [lLawAction1b, lLawAction2b, te_dVar, te_dPk, te_dKn, te_dLook, te_dLookN, te_dFrz, te_dOp, te_dB1, te_dRev, te_dIs, te_aNil, te_aD, te_aSt, te_dTup, te_dLst, te_dAnd, te_dOr, te_dNot, te_dNeg, te_dCh, te_tVal, te_tBl, te_tYes, te_tAn, te_tO, te_tNo, te_dIf, te_dSl, te_po0, te_po1, te_dCall, te_dCallX, te_iL, te_iLp, te_iT, te_iS, te_iR1, te_iR2, te_gN, te_gT, te_gs0, te_gs1, te_gNsl, te_gTsl, te_dLc, te_dSt, te_scrV, te_scrS, te_dScrL, te_dScrI, te_dXf, ts_sSet, ts_sTgt, ts_sNew, ts_sExpr, ts_sRet, ts_sRetN, ts_sSkip, ts_sBrk, ts_sCnt, ts_sIf, ts_sSeq, ts_sAug, ts_sApp, ts_sExt, ts_sPop, ts_sPopE, ts_sSetI, ts_sFrz, ts_sFor, ts_sWhile, ts_sRaise, ts_sStSet, ts_sNew2, te_dPk2, ts_sPop2, ts_sPush2, ts_sAppP, ts_sXl, ts_sXlA, te_xl0, te_xl1, te_dXo, te_dIsX, te_tPr, ts_s3Push, ts_s3New0, ts_s3New1, ts_s3App, te_dLen3, ts_s3Closed, te_dJoin, te_aV, ts_sFoldT, tFoldT, te_dIsXB, ts_sDkNew, ts_sDkPut, te_dDkSorted, te_cpf, te_cpn, ts_sPar2, ts_sPar3, ts_sCallPop, ts_sExtCallPop, te_dMax, ts_sPar3T, te_dDicS, te_tsTx0, te_tsTx1, te_dDicIx, te_dFld, ts_sFldSet, ts_sFldAdd, te_dMeth, te_dMethX, te_dWLen, te_dWName, ts_sWApp, ts_sWPop, ts_sWPush, ts_sWNew, ts_sOb, te_dTlNe, te_dTlPop, ts_sTlApp, ts_sTl, te_aLam, te_aFn, te_dCallC, te_dCallP, te_dCallV, ts_sFoldV, ts_sNdef, te_iRR, ts_sExtT, te_dOFld, te_dOMeth, te_dNew, tInit_1, tInit_2, te_dLIx, te_dLRg, te_dTRg, te_dMin, te_dBor, te_dInS, te_dNInS, ts_sSlApp, ts_sCallS, te_dSlNew, te_dTIx]
    exact (pss_cons (ps_set (i := 2) scLawAction.nd rfl (.inl rfl) (Tn.pe_tupN (pa_cons pe_str pa_nil)))
      (pss_cons (ps_if (pt_cmpR (op_eqW hr.unW) (pe_callB call_len (by rfl) T.m_len PySem.boot_len (pa_cons (pv 1) pa_nil)) pe_int (nomark _)) (pss_one (ps_set (i := 2) scLawAction.nd rfl (.inl rfl) (Tn.pe_tupN (pa_cons pe_str pa_nil)))) pss_nil)
      (pss_cons (ps_if (pt_cmpR (op_eqW hr.unW) (pe_callB call_len (by rfl) T.m_len PySem.boot_len (pa_cons (pv 1) pa_nil)) pe_int (nomark _)) (pss_one (ps_set (i := 2) scLawAction.nd rfl (.inl rfl) (Tn.pe_tupN (pa_cons pe_str (pa_cons (pe_cl c.LawState hr (Nat.le_refl _) rfl (pa_cons (pv 0) (pa_cons (pe_ix ix_tup (pv 1) pe_int (fun _ _ => rfl)) pa_nil))) pa_nil))))) pss_nil)
      (pss_cons (ps_set (i := 3) scLawAction.nd rfl (.inl rfl) (pe_lst pa_nil))
      (pss_cons (ps_for PassesOwn.never rfl (pi_range1 (by rfl) T.m_range (pa_cons (pe_callB call_len (by rfl) T.m_len PySem.boot_len (pa_cons (pe_ix ix_tup (pv 0) pe_int (fun _ _ => rfl)) pa_nil)) pa_nil)) (pg_name (i := 4) scLawAction.nd rfl (.inl rfl)) (pss_cons (ps_for PassesOwn.never rfl (pi_tup (pv 1)) (pg_name (i := 5) scLawAction.nd rfl (.inl rfl)) (pss_one (ps_set (i := 4) scLawAction.nd rfl (.inl rfl) (pe_ix ix_tup (pe_ix ix_tup (pe_ix ix_tup (pv 0) pe_int (fun _ _ => rfl)) (pv 4) (fun _ _ => rfl)) (pe_cl c.LawState hr (Nat.le_refl _) rfl (pa_cons (pv 0) (pa_cons (pv 5) pa_nil))) (fun _ _ => rfl)))))
      (pss_one (ps_expr (pe_bm PySem.F.plainAttrs_list PySem.F.slot_list_append PySem.F.type_list_append mt_append (pv 3) (pa_cons (pv 4) pa_nil))))))
      (pss_one (ps_ret (Tn.pe_tupN (pa_cons (pv 2) (pa_cons (pe_callTy Tn.call_tupleN (by rfl) T.m_tuple PyProof.Rows.boot_tuple (pa_cons (pv 3) pa_nil)) pa_nil)))))))))))
theorem okLaw (hK : KF K) (T : Tx K mg) (x : Xs P w K mg base) (hx : 3 ≤ k) (c : Cs P w K mg base k R) (F : Fd K "law" "law" sLaw f fd)
    (hev : ∀ ns : List Int, ns.length ≤ 63 → ∃ ρ' st', (bLaw K hK R).ev (.scr :: .st :: List.replicate 14 .no) ⟨ns, [0, 0], [], false, []⟩ = some (.rt (.bool true), ρ', st')) : FnOk P w K mg base CX0 (k + 2) f fd ["script"] (spLawT K (tabs K)) :=
  law_FT (C := CC K) (Nr := ["names", "told", "table", "rows", "k", "row", "due", "said", "name", "other", "left", "first", "tree", "one"]) (te := (tLst (tCons (tC (.int 0)) (tCons (tC (.int 0)) tNil)))) rfl F scLaw (fun σ H a Q h0 h => start0_ok rfl h0 h) hev fun cdv A outer s H E hr2 => (by
    have hr := hr2.mono (Nat.le_succ k)
    unfold bLaw
    simp only [lLaw1b, lLaw2b, lLaw3b, te_dVar, te_dPk, te_dKn, te_dLook, te_dLookN, te_dFrz, te_dOp, te_dB1, te_dRev, te_dIs, te_aNil, te_aD, te_aSt, te_dTup, te_dLst, te_dAnd, te_dOr, te_dNot, te_dNeg, te_dCh, te_tVal, te_tBl, te_tYes, te_tAn, te_tO, te_tNo, te_dIf, te_dSl, te_po0, te_po1, te_dCall, te_dCallX, te_iL, te_iLp, te_iT, te_iS, te_iR1, te_iR2, te_gN, te_gT, te_gs0, te_gs1, te_gNsl, te_gTsl, te_dLc, te_dSt, te_scrV, te_scrS, te_dScrL, te_dScrI, te_dXf, ts_sSet, ts_sTgt, ts_sNew, ts_sExpr, ts_sRet, ts_sRetN, ts_sSkip, ts_sBrk, ts_sCnt, ts_sIf, ts_sSeq, ts_sAug, ts_sApp, ts_sExt, ts_sPop, ts_sPopE, ts_sSetI, ts_sFrz, ts_sFor, ts_sWhile, ts_sRaise, ts_sStSet, ts_sNew2, te_dPk2, ts_sPop2, ts_sPush2, ts_sAppP, ts_sXl, ts_sXlA, te_xl0, te_xl1, te_dXo, te_dIsX, te_tPr, ts_s3Push, ts_s3New0, ts_s3New1, ts_s3App, te_dLen3, ts_s3Closed, te_dJoin, te_aV, ts_sFoldT, tFoldT, te_dIsXB, ts_sDkNew, ts_sDkPut, te_dDkSorted, te_cpf, te_cpn, ts_sPar2, ts_sPar3, ts_sCallPop, ts_sExtCallPop, te_dMax, ts_sPar3T, te_dDicS, te_tsTx0, te_tsTx1, te_dDicIx, te_dFld, ts_sFldSet, ts_sFldAdd, te_dMeth, te_dMethX, te_dWLen, te_dWName, ts_sWApp, ts_sWPop, ts_sWPush, ts_sWNew, ts_sOb, te_dTlNe, te_dTlPop, ts_sTlApp, ts_sTl, te_aLam, te_aFn, te_dCallC, te_dCallP, te_dCallV, ts_sFoldV, ts_sNdef, te_iRR, ts_sExtT, te_dOFld, te_dOMeth, te_dNew, tInit_1, tInit_2, te_dLIx, te_dLRg, te_dTRg, te_dMin, te_dBor, te_dInS, te_dNInS, ts_sSlApp, ts_sCallS, te_dSlNew, te_dTIx]
    exact (pss_cons (ps_set (i := 1) scLaw.nd rfl (.inr rfl) (pe_lst (pa_cons pe_int (pa_cons pe_int pa_nil)))) (pss_cons (ps_set (i := 2) scLaw.nd rfl (.inr rfl) (pe_slice sl_list (pe_lst (pa_cons pe_str (pa_cons pe_str (pa_cons pe_str pa_nil)))) po_none (po_some (pe_op op_add pe_int (pe_cl c.LawDraw hr (Nat.le_refl _) rfl (pa_cons (pv 1) (pa_cons (pv 0) (pa_cons pe_int pa_nil))))))))
      (pss_cons (ps_set (i := 3) scLaw.nd rfl (.inl rfl) (pe_cl c.LawTable hr (Nat.le_refl _) rfl (pa_cons (pv 1) (pa_cons (pv 0) (pa_cons (pv 2) pa_nil)))))
      (pss_cons (ps_set (i := 4) scLaw.nd rfl (.inl rfl) (pe_ck c.TableInit hr2 (by omega) rfl (pa_cons (pe_ix ix_tup (pv 3) pe_int (fun _ _ => rfl)) (pa_cons (pe_ix ix_tup (pv 3) pe_int (fun _ _ => rfl)) (pa_cons (pe_ix ix_tup (pv 3) pe_int (fun _ _ => rfl)) (pa_cons (pe_ix ix_tup (pv 3) pe_int (fun _ _ => rfl)) (pa_cons (pe_ix ix_tup (pv 3) pe_int (fun _ _ => rfl)) pa_nil)))))))
      (pss_cons (ps_set (i := 5) scLaw.nd rfl (.inl rfl) (pe_lst pa_nil))
      (pss_cons (ps_for PassesOwn.never rfl (pi_range1 (by rfl) T.m_range (pa_cons pe_int pa_nil)) (pg_name (i := 6) scLaw.nd rfl (.inl rfl)) (pss_one (ps_expr (pe_bm PySem.F.plainAttrs_list PySem.F.slot_list_append PySem.F.type_list_append mt_append (pv 5) (pa_cons (pe_callTy Tn.call_tupleN (by rfl) T.m_tuple PyProof.Rows.boot_tuple (pa_cons (pe_lc (own := [("one", 15)]) rfl scLaw.nd (pi_range1 (by rfl) T.m_range (pa_cons (pe_cl c.LawDraw hr (Nat.le_refl _) rfl (pa_cons (pv 1) (pa_cons (pv 0) (pa_cons pe_int pa_nil)))) pa_nil)) (blkOk_by (N := ["script", "state", "names", "told", "table", "rows", "k", "row", "due", "said", "name", "other", "left", "first", "tree", "one"]) (sc := (defScope sLaw)) (by decide +kernel)) (fun _ _ _ _ _ => (pg_name (i := 15) scLaw.nd rfl (.inl rfl))) (fun _ _ _ _ _ => pts_nil) (fun _ _ _ _ _ => (pe_cl c.LawSomeTree hr (Nat.le_refl _) rfl (pa_cons (pv 1) (pa_cons (pv 0) (pa_cons (pv 2) (pa_cons pe_int pa_nil))))))) pa_nil)) pa_nil)))))
      (pss_cons (ps_for PassesOwn.never rfl (pi_list (pv 5)) (pg_name (i := 7) scLaw.nd rfl (.inl rfl)) (pss_cons (ps_set (i := 8) scLaw.nd rfl (.inl rfl) (pe_cl c.LawAction hr (Nat.le_refl _) rfl (pa_cons (pv 3) (pa_cons (pv 7) pa_nil))))
      (pss_cons (ps_if (pt_cmpR (op_neW hr.unW) (pe_cl c.ActionOf hr (Nat.le_refl _) rfl (pa_cons (pv 4) (pa_cons (pv 7) pa_nil))) (pv 8) (nomark _)) (pss_one (ps_ret pe_bl)) pss_nil)
      (pss_cons (ps_set (i := 9) scLaw.nd rfl (.inl rfl) (pe_cl c.IsDocument hr (Nat.le_refl _) rfl (pa_cons (pv 4) (pa_cons (pv 8) pa_nil))))
      (pss_cons (ps_if (PW.pt (pw_or (pt_not (pt_val (pe_callB call_isi (by rfl) T.m_isinstance PyProof.Rows.boot_isinstance (pa_cons (pv 9) (pa_cons (pe_bltn (v := .ty "bool") (by rfl) T.m_bool PyProof.Rows.boot_bool rfl) pa_nil))))) (pw_or1 (pt_cmpR (op_neW hr.unW) (pv 9) (pe_and (pe_cmpR (op_eqW hr.unW) (pe_callB call_len (by rfl) T.m_len PySem.boot_len (pa_cons (pv 7) pa_nil)) pe_int (nomark _)) (pe_one (pe_cmpR op_in_seq (pe_ix ix_tup (pe_ix ix_tup (pv 8) pe_int (fun _ _ => rfl)) pe_int (fun _ _ => rfl)) (pe_ix ix_tup (pv 3) pe_int (fun _ _ => rfl)) (by rfl)))) (nomark _))))) (pss_one (ps_ret pe_bl)) pss_nil)
      (pss_cons (ps_set (i := 10) scLaw.nd rfl (.inl rfl) (pe_ix ix_list (pv 2) (pe_cl c.LawDraw hr (Nat.le_refl _) rfl (pa_cons (pv 1) (pa_cons (pv 0) (pa_cons (pe_callB call_len (by rfl) T.m_len PySem.boot_len (pa_cons (pv 2) pa_nil)) pa_nil)))) (fun _ _ => rfl)))
      (pss_cons (ps_if (pt_cmpR (op_neW hr.unW) (pe_cl c.Above hr (Nat.le_refl _) rfl (pa_cons (pv 4) (pa_cons (pv 10) (pa_cons (pv 8) pa_nil)))) (pe_cl c.LawAction hr (Nat.le_refl _) rfl (pa_cons (pv 3) (pa_cons (Tn.pe_tupN (pa_cons (Tn.pe_tupN (pa_cons (pv 10) (pa_cons (pv 7) pa_nil))) pa_nil)) pa_nil))) (nomark _)) (pss_one (ps_ret pe_bl)) pss_nil)
      (pss_one (ps_for PassesOwn.never rfl (pi_list (pv 5)) (pg_name (i := 11) scLaw.nd rfl (.inl rfl)) (pss_cons (ps_if (pt_cmpR (op_neW hr.unW) (pe_cl c.Beside hr (Nat.le_refl _) rfl (pa_cons (pv 8) (pa_cons (pe_cl c.LawAction hr (Nat.le_refl _) rfl (pa_cons (pv 3) (pa_cons (pv 11) pa_nil))) pa_nil))) (pe_cl c.LawAction hr (Nat.le_refl _) rfl (pa_cons (pv 3) (pa_cons (pe_op Tn.op_catN (pv 7) (pv 11)) pa_nil))) (nomark _)) (pss_one (ps_ret pe_bl)) pss_nil)
      (pss_one (ps_if (pt_cmpR (op_eqW hr.unW) (pe_ix ix_tup (pe_cl c.LawAction hr (Nat.le_refl _) rfl (pa_cons (pv 3) (pa_cons (pv 11) pa_nil))) pe_int (fun _ _ => rfl)) (pe_ix ix_tup (pv 8) pe_int (fun _ _ => rfl)) (nomark _)) (pss_cons (ps_set (i := 12) scLaw.nd rfl (.inl rfl) (pe_callTy Tn.call_tupleN (by rfl) T.m_tuple PyProof.Rows.boot_tuple (pa_cons (pe_lc (own := [("one", 15)]) rfl scLaw.nd (pi_range1 (by rfl) T.m_range (pa_cons (pe_cl c.LawDraw hr (Nat.le_refl _) rfl (pa_cons (pv 1) (pa_cons (pv 0) (pa_cons pe_int pa_nil)))) pa_nil)) (blkOk_by (N := ["script", "state", "names", "told", "table", "rows", "k", "row", "due", "said", "name", "other", "left", "first", "tree", "one"]) (sc := (defScope sLaw)) (by decide +kernel)) (fun _ _ _ _ _ => (pg_name (i := 15) scLaw.nd rfl (.inl rfl))) (fun _ _ _ _ _ => pts_nil) (fun _ _ _ _ _ => (pe_cl c.LawSomeTree hr (Nat.le_refl _) rfl (pa_cons (pv 1) (pa_cons (pv 0) (pa_cons (pv 2) (pa_cons pe_int pa_nil))))))) pa_nil)))
      (pss_cons (ps_set (i := 13) scLaw.nd rfl (.inl rfl) (pe_cl c.LawState hr (Nat.le_refl _) rfl (pa_cons (pv 3) (pa_cons (Tn.pe_tupN (pa_cons (pv 10) (pa_cons (pe_op Tn.op_catN (pe_op Tn.op_catN (pv 12) (pv 7)) (pv 12)) pa_nil))) pa_nil))))
      (pss_one (ps_if (pt_cmpR (op_neW hr.unW) (pv 13) (pe_cl c.LawState hr (Nat.le_refl _) rfl (pa_cons (pv 3) (pa_cons (Tn.pe_tupN (pa_cons (pv 10) (pa_cons (pe_op Tn.op_catN (pe_op Tn.op_catN (pv 12) (pv 11)) (pv 12)) pa_nil))) pa_nil))) (nomark _)) (pss_one (ps_ret pe_bl)) pss_nil)))) pss_nil))))))))))))
      (pss_cons (ps_if (pt_cmpR (op_neW hr.unW) (pe_cl c.Nothing hr (Nat.le_refl _) rfl (pa_cons (pv 4) pa_nil)) (pe_cl c.LawAction hr (Nat.le_refl _) rfl (pa_cons (pv 3) (pa_cons (Tn.pe_tupN pa_nil) pa_nil))) (nomark _)) (pss_one (ps_ret pe_bl)) pss_nil)
      (pss_cons (ps_set (i := 14) scLaw.nd rfl (.inl rfl) (pe_cl c.LawSomeTree hr (Nat.le_refl _) rfl (pa_cons (pv 1) (pa_cons (pv 0) (pa_cons (pv 2) (pa_cons pe_int pa_nil))))))
      (pss_one (ps_ret (pe_cmpR (op_eqW hr.unW) (pe_cl c.Single hr (Nat.le_refl _) rfl (pa_cons (pv 4) (pa_cons (pe_cl c.LawState hr (Nat.le_refl _) rfl (pa_cons (pv 3) (pa_cons (pv 14) pa_nil))) pa_nil))) (pe_cl c.LawAction hr (Nat.le_refl _) rfl (pa_cons (pv 3) (pa_cons (Tn.pe_tupN (pa_cons (pv 14) pa_nil)) pa_nil))) (nomark _))))))))))))))
end
--MANUAL--
/-- the defs' objects -/
structure Fz (K : PySem.W.Frag) (mg : Str → Option Value) : Prop where
  Nothing : ∃ f fd, Fd K "nothing" "nothing" sNothing f fd ∧ mg "nothing" = some (.ref f)
  Single : ∃ f fd, Fd K "single" "single" sSingle f fd ∧ mg "single" = some (.ref f)
  Beside : ∃ f fd, Fd K "beside" "beside" sBeside f fd ∧ mg "beside" = some (.ref f)
  Above : ∃ f fd, Fd K "above" "above" sAbove f fd ∧ mg "above" = some (.ref f)
  ActionOf : ∃ f fd, Fd K "action_of" "action_of" sActionOf f fd ∧ mg "action_of" = some (.ref f)
  IsDocument : ∃ f fd, Fd K "is_document" "is_document" sIsDocument f fd ∧ mg "is_document" = some (.ref f)
  Folded : ∃ f fd, Fd K "folded" "folded" sFolded f fd ∧ mg "folded" = some (.ref f)
  StateOf : ∃ fd, Fd K "state_of" "state_of" sStateOf (He.fAd K ("state_of", none)) fd ∧ mg "state_of" = some (.ref (He.fAd K ("state_of", none)))
  LawDraw : ∃ f fd, Fd K "_law_draw" "_law_draw" sLawDraw f fd ∧ mg "_law_draw" = some (.ref f)
  LawSomeTree : ∃ f fd, Fd K "_law_some_tree" "_law_some_tree" sLawSomeTree f fd ∧ mg "_law_some_tree" = some (.ref f)
  LawSize : ∃ f fd, Fd K "_law_size" "_law_size" sLawSize f fd ∧ mg "_law_size" = some (.ref f)
  LawTable : ∃ f fd, Fd K "_law_table" "_law_table" sLawTable f fd ∧ mg "_law_table" = some (.ref f)
  LawState : ∃ f fd, Fd K "_law_state" "_law_state" sLawState f fd ∧ mg "_law_state" = some (.ref f)
  LawAction : ∃ f fd, Fd K "_law_action" "_law_action" sLawAction f fd ∧ mg "_law_action" = some (.ref f)
  TableInit : ∃ f fd, Fd K "__init__" "Table.__init__" sTableInit f fd ∧ Mk K (He.ga K "Table") f ∧ mg "Table" = some (.ref (He.ga K "Table"))
  TableBegin : ∃ f fd, Fd K "begin" "Table.begin" sTableBegin f fd ∧ Meth K (He.ga K "Table") "begin" f
  TableStep : ∃ f fd, Fd K "step" "Table.step" sTableStep f fd ∧ Meth K (He.ga K "Table") "step" f
  TableFinish : ∃ f fd, Fd K "finish" "Table.finish" sTableFinish f fd ∧ Meth K (He.ga K "Table") "finish" f
  TableState : ∃ f fd, Fd K "state" "Table.state" sTableState f fd ∧ Meth K (He.ga K "Table") "state" f
noncomputable def run (K : PySem.W.Frag) (hK : KF K) : Nat → Tab
  | 0 => fun _ _ _ => none
  | n + 1 => step K hK (run K hK n)
theorem stNothing {K : PySem.W.Frag} {hK : KF K} {n : Nat} {as : List En} {st : Ds} : run K hK (n + 1) 0 as st = callD 1 0 (bNothing K hK (run K hK n)) as st := rfl
theorem stSingle {K : PySem.W.Frag} {hK : KF K} {n : Nat} {as : List En} {st : Ds} : run K hK (n + 1) 1 as st = callD 2 1 (bSingle K hK (run K hK n)) as st := rfl
theorem stBeside {K : PySem.W.Frag} {hK : KF K} {n : Nat} {as : List En} {st : Ds} : run K hK (n + 1) 2 as st = callD 2 2 (bBeside K hK (run K hK n)) as st := rfl
theorem stAbove {K : PySem.W.Frag} {hK : KF K} {n : Nat} {as : List En} {st : Ds} : run K hK (n + 1) 3 as st = callD 3 0 (bAbove K hK (run K hK n)) as st := rfl
theorem stActionOf {K : PySem.W.Frag} {hK : KF K} {n : Nat} {as : List En} {st : Ds} : run K hK (n + 1) 4 as st = callD 2 2 (bActionOf K hK (run K hK n)) as st := rfl
theorem stIsDocument {K : PySem.W.Frag} {hK : KF K} {n : Nat} {as : List En} {st : Ds} : run K hK (n + 1) 5 as st = callD 2 0 (bIsDocument K hK (run K hK n)) as st := rfl
theorem stFolded {K : PySem.W.Frag} {hK : KF K} {n : Nat} {as : List En} {st : Ds} : run K hK (n + 1) 6 as st = callD 2 4 (bFolded K hK (run K hK n)) as st := rfl
theorem stStateOf {K : PySem.W.Frag} {hK : KF K} {n : Nat} {as : List En} {st : Ds} : run K hK (n + 1) 7 as st = callM 2 1 (bStateOf K hK (run K hK n)) as st := rfl
theorem stLawDraw {K : PySem.W.Frag} {hK : KF K} {n : Nat} {as : List En} {st : Ds} : run K hK (n + 1) 13 as st = callD 3 3 (bLawDraw K hK (run K hK n)) as st := rfl
theorem stLawSomeTree {K : PySem.W.Frag} {hK : KF K} {n : Nat} {as : List En} {st : Ds} : run K hK (n + 1) 14 as st = callD 4 3 (bLawSomeTree K hK (run K hK n)) as st := rfl
theorem stLawSize {K : PySem.W.Frag} {hK : KF K} {n : Nat} {as : List En} {st : Ds} : run K hK (n + 1) 15 as st = callD 1 1 (bLawSize K hK (run K hK n)) as st := rfl
theorem stLawTable {K : PySem.W.Frag} {hK : KF K} {n : Nat} {as : List En} {st : Ds} : run K hK (n + 1) 16 as st = callD 3 10 (bLawTable K hK (run K hK n)) as st := rfl
theorem stLawState {K : PySem.W.Frag} {hK : KF K} {n : Nat} {as : List En} {st : Ds} : run K hK (n + 1) 17 as st = callD 2 2 (bLawState K hK (run K hK n)) as st := rfl
theorem stLawAction {K : PySem.W.Frag} {hK : KF K} {n : Nat} {as : List En} {st : Ds} : run K hK (n + 1) 18 as st = callD 2 4 (bLawAction K hK (run K hK n)) as st := rfl
theorem stTableInit {K : PySem.W.Frag} {hK : KF K} {n : Nat} {as : List En} {st : Ds} : run K hK (n + 1) 8 as st = callI (He.ga K "Table") 6 1 (bTableInit K hK (run K hK n)) as st := rfl
theorem stTableBegin {K : PySem.W.Frag} {hK : KF K} {n : Nat} {as : List En} {st : Ds} : run K hK (n + 1) 9 as st = callD 2 0 (bTableBegin K hK (run K hK n)) as st := rfl
theorem stTableStep {K : PySem.W.Frag} {hK : KF K} {n : Nat} {as : List En} {st : Ds} : run K hK (n + 1) 10 as st = callD 3 0 (bTableStep K hK (run K hK n)) as st := rfl
theorem stTableFinish {K : PySem.W.Frag} {hK : KF K} {n : Nat} {as : List En} {st : Ds} : run K hK (n + 1) 11 as st = callD 2 0 (bTableFinish K hK (run K hK n)) as st := rfl
theorem stTableState {K : PySem.W.Frag} {hK : KF K} {n : Nat} {as : List En} {st : Ds} : run K hK (n + 1) 12 as st = callD 2 0 (bTableState K hK (run K hK n)) as st := rfl
theorem stStateOfF0 {K : PySem.W.Frag} {hK : KF K} {n : Nat} {as : List En} {st : Ds} : run K hK (n + 1) 19 as st = callD 3 2 (bStateOfF0 K hK (run K hK n)) as st := rfl
theorem cs_all {P : Program} {w : World} {K : PySem.W.Frag} {mg : Str → Option Value} {base : Heap} (hK : KF K) (T : Tx K mg) (x : Xs P w K mg base) (tb : Tb K mg base) (z : Fz K mg) : ∀ n, Cs P w K mg base (2 * n + 4) (run K hK n)
  | 0 => by
    obtain ⟨fNothing, dNothing, FNothing, mNothing⟩ := z.Nothing
    obtain ⟨fSingle, dSingle, FSingle, mSingle⟩ := z.Single
    obtain ⟨fBeside, dBeside, FBeside, mBeside⟩ := z.Beside
    obtain ⟨fAbove, dAbove, FAbove, mAbove⟩ := z.Above
    obtain ⟨fActionOf, dActionOf, FActionOf, mActionOf⟩ := z.ActionOf
    obtain ⟨fIsDocument, dIsDocument, FIsDocument, mIsDocument⟩ := z.IsDocument
    obtain ⟨fFolded, dFolded, FFolded, mFolded⟩ := z.Folded
    obtain ⟨dStateOf, FStateOf, mStateOf⟩ := z.StateOf
    obtain ⟨fLawDraw, dLawDraw, FLawDraw, mLawDraw⟩ := z.LawDraw
    obtain ⟨fLawSomeTree, dLawSomeTree, FLawSomeTree, mLawSomeTree⟩ := z.LawSomeTree
    obtain ⟨fLawSize, dLawSize, FLawSize, mLawSize⟩ := z.LawSize
    obtain ⟨fLawTable, dLawTable, FLawTable, mLawTable⟩ := z.LawTable
    obtain ⟨fLawState, dLawState, FLawState, mLawState⟩ := z.LawState
    obtain ⟨fLawAction, dLawAction, FLawAction, mLawAction⟩ := z.LawAction
    obtain ⟨fTableInit, dTableInit, FTableInit, MTableInit, mTableInit⟩ := z.TableInit
    obtain ⟨fTableBegin, dTableBegin, FTableBegin, mTableBegin⟩ := z.TableBegin
    obtain ⟨fTableStep, dTableStep, FTableStep, mTableStep⟩ := z.TableStep
    obtain ⟨fTableFinish, dTableFinish, FTableFinish, mTableFinish⟩ := z.TableFinish
    obtain ⟨fTableState, dTableState, FTableState, mTableState⟩ := z.TableState
    exact ⟨cl_none (C := CC K) FNothing mNothing (FunD.bindsN FNothing fun _ _ _ _ _ _ us hl => match us, hl with | [_], _ => rfl),
      cl_none (C := CC K) FSingle mSingle (FunD.bindsN FSingle fun _ _ _ _ _ _ us hl => match us, hl with | [_, _], _ => rfl),
      cl_none (C := CC K) FBeside mBeside (FunD.bindsN FBeside fun _ _ _ _ _ _ us hl => match us, hl with | [_, _], _ => rfl),
      cl_none (C := CC K) FAbove mAbove (FunD.bindsN FAbove fun _ _ _ _ _ _ us hl => match us, hl with | [_, _, _], _ => rfl),
      cl_none (C := CC K) FActionOf mActionOf (FunD.bindsN FActionOf fun _ _ _ _ _ _ us hl => match us, hl with | [_, _], _ => rfl),
      cl_none (C := CC K) FIsDocument mIsDocument (FunD.bindsN FIsDocument fun _ _ _ _ _ _ us hl => match us, hl with | [_, _], _ => rfl),
      clc_none (C := CC K) FFolded mFolded (FunD.bindsN FFolded fun _ _ _ _ _ _ us hl => match us, hl with | [_, _], _ => rfl),
      cl_none (C := CC K) FStateOf mStateOf (FunD.bindsN FStateOf fun _ _ _ _ _ _ us hl => match us, hl with | [_, _], _ => rfl),
      cl_none (C := CC K) FLawDraw mLawDraw (FunD.bindsN FLawDraw fun _ _ _ _ _ _ us hl => match us, hl with | [_, _, _], _ => rfl),
      cl_none (C := CC K) FLawSomeTree mLawSomeTree (FunD.bindsN FLawSomeTree fun _ _ _ _ _ _ us hl => match us, hl with | [_, _, _, _], _ => rfl),
      cl_none (C := CC K) FLawSize mLawSize (FunD.bindsN FLawSize fun _ _ _ _ _ _ us hl => match us, hl with | [_], _ => rfl),
      cl_none (C := CC K) FLawTable mLawTable (FunD.bindsN FLawTable fun _ _ _ _ _ _ us hl => match us, hl with | [_, _, _], _ => rfl),
      cl_none (C := CC K) FLawState mLawState (FunD.bindsN FLawState fun _ _ _ _ _ _ us hl => match us, hl with | [_, _], _ => rfl),
      cl_none (C := CC K) FLawAction mLawAction (FunD.bindsN FLawAction fun _ _ _ _ _ _ us hl => match us, hl with | [_, _], _ => rfl),
      ⟨fTableInit, dTableInit, fn_noneI (C := CC K) FTableInit, MTableInit, mTableInit, (FunD.bindsN FTableInit fun _ _ _ _ _ _ us hl => match us, hl with | [_, _, _, _, _, _], _ => rfl)⟩,
      ⟨fTableBegin, dTableBegin, fn_none (C := CC K) FTableBegin, mTableBegin, (FunD.bindsN FTableBegin fun _ _ _ _ _ _ us hl => match us, hl with | [_, _], _ => rfl)⟩,
      ⟨fTableStep, dTableStep, fn_none (C := CC K) FTableStep, mTableStep, (FunD.bindsN FTableStep fun _ _ _ _ _ _ us hl => match us, hl with | [_, _, _], _ => rfl)⟩,
      ⟨fTableFinish, dTableFinish, fn_none (C := CC K) FTableFinish, mTableFinish, (FunD.bindsN FTableFinish fun _ _ _ _ _ _ us hl => match us, hl with | [_, _], _ => rfl)⟩,
      ⟨fTableState, dTableState, fn_none (C := CC K) FTableState, mTableState, (FunD.bindsN FTableState fun _ _ _ _ _ _ us hl => match us, hl with | [_, _], _ => rfl)⟩,
      fun _ _ => wok_none (C := CC K)⟩
  | n + 1 => by
    have c := cs_all hK T x tb z n
    have hx : 3 ≤ 2 * n + 4 := by omega
    have e24 : 2 * (n + 1) + 4 = 2 * n + 4 + 2 := by omega
    rw [e24]
    obtain ⟨fNothing, dNothing, FNothing, mNothing⟩ := z.Nothing
    obtain ⟨fSingle, dSingle, FSingle, mSingle⟩ := z.Single
    obtain ⟨fBeside, dBeside, FBeside, mBeside⟩ := z.Beside
    obtain ⟨fAbove, dAbove, FAbove, mAbove⟩ := z.Above
    obtain ⟨fActionOf, dActionOf, FActionOf, mActionOf⟩ := z.ActionOf
    obtain ⟨fIsDocument, dIsDocument, FIsDocument, mIsDocument⟩ := z.IsDocument
    obtain ⟨fFolded, dFolded, FFolded, mFolded⟩ := z.Folded
    obtain ⟨dStateOf, FStateOf, mStateOf⟩ := z.StateOf
    obtain ⟨fLawDraw, dLawDraw, FLawDraw, mLawDraw⟩ := z.LawDraw
    obtain ⟨fLawSomeTree, dLawSomeTree, FLawSomeTree, mLawSomeTree⟩ := z.LawSomeTree
    obtain ⟨fLawSize, dLawSize, FLawSize, mLawSize⟩ := z.LawSize
    obtain ⟨fLawTable, dLawTable, FLawTable, mLawTable⟩ := z.LawTable
    obtain ⟨fLawState, dLawState, FLawState, mLawState⟩ := z.LawState
    obtain ⟨fLawAction, dLawAction, FLawAction, mLawAction⟩ := z.LawAction
    obtain ⟨fTableInit, dTableInit, FTableInit, MTableInit, mTableInit⟩ := z.TableInit
    obtain ⟨fTableBegin, dTableBegin, FTableBegin, mTableBegin⟩ := z.TableBegin
    obtain ⟨fTableStep, dTableStep, FTableStep, mTableStep⟩ := z.TableStep
    obtain ⟨fTableFinish, dTableFinish, FTableFinish, mTableFinish⟩ := z.TableFinish
    obtain ⟨fTableState, dTableState, FTableState, mTableState⟩ := z.TableState
    exact ⟨okNothing hK T x hx c FNothing mNothing,
      okSingle hK T x hx c FSingle mSingle,
      okBeside hK T x hx c FBeside mBeside,
      okAbove hK T x hx c FAbove mAbove,
      okActionOf hK T x hx c FActionOf mActionOf,
      okIsDocument hK T x hx c FIsDocument mIsDocument,
      okFolded hK T x hx c FFolded mFolded,
      okStateOf hK T x hx c tb FStateOf mStateOf,
      okLawDraw hK T x hx c FLawDraw mLawDraw,
      okLawSomeTree hK T x hx c FLawSomeTree mLawSomeTree,
      okLawSize hK T x hx c FLawSize mLawSize,
      okLawTable hK T x hx c FLawTable mLawTable,
      okLawState hK T x hx c FLawState mLawState,
      okLawAction hK T x hx c FLawAction mLawAction,
      ⟨fTableInit, dTableInit, okTableInit hK T x hx c FTableInit, MTableInit, mTableInit, (FunD.bindsN FTableInit fun _ _ _ _ _ _ us hl => match us, hl with | [_, _, _, _, _, _], _ => rfl)⟩,
      ⟨fTableBegin, dTableBegin, okTableBegin hK T x hx c FTableBegin, mTableBegin, (FunD.bindsN FTableBegin fun _ _ _ _ _ _ us hl => match us, hl with | [_, _], _ => rfl)⟩,
      ⟨fTableStep, dTableStep, okTableStep hK T x hx c FTableStep, mTableStep, (FunD.bindsN FTableStep fun _ _ _ _ _ _ us hl => match us, hl with | [_, _, _], _ => rfl)⟩,
      ⟨fTableFinish, dTableFinish, okTableFinish hK T x hx c FTableFinish, mTableFinish, (FunD.bindsN FTableFinish fun _ _ _ _ _ _ us hl => match us, hl with | [_, _], _ => rfl)⟩,
      ⟨fTableState, dTableState, okTableState hK T x hx c FTableState, mTableState, (FunD.bindsN FTableState fun _ _ _ _ _ _ us hl => match us, hl with | [_, _], _ => rfl)⟩,
      okStateOfF0 hK T x hx c⟩
end Lw

/-! trees as data -/
namespace De
open PySem PySem.Spec PyProof.Rows L2 Dx Dg
inductive Tr where
  | nd (x : Str) (c : List Tr)
mutual
def Tr.D : Tr → PyData
  | .nd x c => .tuple [.str x, .tuple (Ds' c)]
def Ds' : List Tr → List PyData
  | [] => []
  | t :: r => t.D :: Ds' r
end
theorem Ds_map : ∀ c : List Tr, Ds' c = c.map Tr.D
  | [] => rfl
  | t :: r => by show t.D :: Ds' r = _; rw [Ds_map r]; rfl
theorem Tr.D_nd {x : Str} {c : List Tr} : (Tr.nd x c).D = .tuple [.str x, .tuple (c.map Tr.D)] := by rw [← Ds_map]; rfl
mutual
def Tr.sz : Tr → Nat
  | .nd _ c => 1 + szs c
def szs : List Tr → Nat
  | [] => 0
  | t :: r => t.sz + szs r
end
mutual
def Tr.dp : Tr → Nat
  | .nd _ c => 1 + dps c
def dps : List Tr → Nat
  | [] => 0
  | t :: r => max t.dp (dps r)
end
theorem dps_mem {t : Tr} : ∀ {c : List Tr}, t ∈ c → t.dp ≤ dps c
  | u :: r, h => by
    rcases List.mem_cons.mp h with rfl | h
    · exact Nat.le_max_left _ _
    · exact Nat.le_trans (dps_mem h) (Nat.le_max_right _ _)
mutual
theorem Tr.dp_sz : ∀ t : Tr, t.dp ≤ t.sz
  | .nd _ c => Nat.add_le_add_left (dps_szs c) 1
theorem dps_szs : ∀ c : List Tr, dps c ≤ szs c
  | [] => Nat.le_refl _
  | t :: r => by
    have h1 := Tr.dp_sz t
    have h2 := dps_szs r
    show max t.dp (dps r) ≤ t.sz + szs r
    omega
end
theorem Tr.sz_pos : ∀ t : Tr, 1 ≤ t.sz
  | .nd _ c => Nat.le_add_right 1 _
theorem szs_app : ∀ {c d : List Tr}, szs (c ++ d) = szs c + szs d
  | [], d => (Nat.zero_add _).symm
  | t :: r, d => by show t.sz + szs (r ++ d) = t.sz + szs r + szs d; rw [szs_app, Nat.add_assoc]
theorem szs_sum : ∀ c : List Tr, ((c.map fun t => ((t.sz : Nat) : Int)).sum : Int) = (szs c : Nat)
  | [] => rfl
  | t :: r => by
    rw [List.map_cons, List.sum_cons, szs_sum r]
    show ((t.sz : Nat) : Int) + (szs r : Nat) = ((t.sz + szs r : Nat) : Int)
    omega
theorem szs_len : ∀ c : List Tr, c.length ≤ szs c
  | [] => Nat.le_refl _
  | t :: r => by
    have h1 := Tr.sz_pos t
    have h2 := szs_len r
    show r.length + 1 ≤ t.sz + szs r
    omega
theorem szs_mem {t : Tr} : ∀ {c : List Tr}, t ∈ c → t.sz ≤ szs c
  | u :: r, h => by
    rcases List.mem_cons.mp h with rfl | h
    · exact Nat.le_add_right _ _
    · exact Nat.le_trans (szs_mem h) (Nat.le_add_left _ _)
/-- all names are such -/
inductive Tr.Nm (P : Str → Prop) : Tr → Prop
  | nd {x : Str} {c : List Tr} : P x → (∀ t, t ∈ c → Tr.Nm P t) → Tr.Nm P (.nd x c)
section
variable {P : Str → Prop}
mutual
theorem Tr.lay (hP : ∀ x, P x → PyData.strOk x = true) : ∀ {t : Tr}, t.Nm P → t.D.canLay0 = true
  | .nd x c, .nd h1 h2 => by
    have := lays hP (c := c) h2
    show PyData.canLayAll0 [.str x, .tuple (Ds' c)] = true
    simp only [PyData.canLayAll0, PyData.canLay0, hP x h1, this, Bool.and_self]
theorem lays (hP : ∀ x, P x → PyData.strOk x = true) : ∀ {c : List Tr}, (∀ t, t ∈ c → t.Nm P) → PyData.canLayAll0 (Ds' c) = true
  | [], _ => rfl
  | t :: r, h => by
    have h1 := Tr.lay hP (h t List.mem_cons_self)
    have h2 := lays hP (c := r) fun u hu => h u (List.mem_cons_of_mem _ hu)
    show PyData.canLayAll0 (t.D :: Ds' r) = true
    simp only [PyData.canLayAll0, h1, h2, Bool.and_self]
end
mutual
theorem Tr.deep : ∀ t : Tr, t.D.depth ≤ 2 * t.dp
  | .nd x c => by
    have := deeps c
    show PyData.depthAll [.str x, .tuple (Ds' c)] + 1 ≤ 2 * (1 + dps c)
    simp only [PyData.depthAll, PyData.depth]
    omega
theorem deeps : ∀ c : List Tr, PyData.depthAll (Ds' c) ≤ 2 * dps c
  | [] => Nat.le_refl _
  | t :: r => by
    have h1 := Tr.deep t
    have h2 := deeps r
    show PyData.depthAll (t.D :: Ds' r) ≤ 2 * max t.dp (dps r)
    simp only [PyData.depthAll]
    omega
end
theorem Tr.shaped (hP : ∀ x, P x → PyData.strOk x = true) {t : Tr} (h : t.Nm P) (hd : t.dp ≤ 32) : SeqAt.shaped t.D = true := shaped_mk (Tr.lay hP h) (by have := Tr.deep t; omega)
end
end De

namespace Lw
open PySem PySem.Spec PyProof.Rows L2 Dx Dg De Fv
theorem at_in {α : Type} {xs : List α} {i : Int} (h0 : 0 ≤ i) (h1 : i < xs.length) : ∃ v, atI xs i = some v := by
  have h2 : i.toNat < xs.length := by omega
  refine ⟨xs[i.toNat], ?_⟩
  have := atI_nat (xs := xs) (n := i.toNat) (x := xs[i.toNat]) (List.getElem?_eq_getElem h2)
  rw [Int.toNat_of_nonneg h0] at this
  exact this
/-- the drawing state -/
def Dr0 (scr : List Int) (st : Ds) : Prop := ∃ i c : Int, st = ⟨scr, [i, c], [], false, []⟩ ∧ 0 ≤ i
theorem ev_draw {K : PySem.W.Frag} (hK : KF K) (R : Tab) (scr : List Int) (st : Ds) (L : Int) (h : Dr0 scr st) (h0 : 0 < L) (h1 : L < 1073741824) :
    ∃ ρ' d st', (bLawDraw K hK R).ev [.st, .scr, .d (.int L), .no, .no, .no] st = some (.rt (.int d), ρ', st') ∧ 0 ≤ d ∧ d < L ∧ Dr0 scr st' := by
  obtain ⟨i, c, rfl, hi⟩ := h
  have hLn : L.natAbs < 1073741824 := by omega
  have mL : ∀ x : Int, 0 ≤ x % L ∧ x % L < L := fun x => ⟨Int.emod_nonneg _ (by omega), Int.emod_lt_of_pos _ (by omega)⟩
  by_cases hA : c = 0
  · subst hA
    suffices ∃ x ρ', (bLawDraw K hK R).ev [.st, .scr, .d (.int L), .no, .no, .no] ⟨scr, [i, 0], [], false, []⟩ = some (.rt (.int (x % L)), ρ', ⟨scr, [i + 1, x / L], [], false, []⟩) by
      obtain ⟨x, ρ', e⟩ := this
      exact ⟨ρ', _, _, e, (mL _).1, (mL _).2, _, _, rfl, by omega⟩
    by_cases hn : (0 : Int) < scr.length
    · have hm0 : 0 ≤ i % (scr.length : Int) := Int.emod_nonneg _ (by omega)
      have hm1 : i % (scr.length : Int) < scr.length := Int.emod_lt_of_pos _ hn
      obtain ⟨v, hv⟩ := at_in hm0 hm1
      have hn3 : 0 < scr.length := by omega
      by_cases hneg : v < 0
      · by_cases hb1 : (1000000000000000000 : Int) ≤ 1 - 2 * v
        · by_cases hb2 : i < scr.length
          · refine ⟨1 - 2 * v, ?_⟩
            unfold bLawDraw
            simp -implicitDefEqProofs [hn3, hv, hneg, hb1, hb2, h0, hLn]
          · refine ⟨((1 - 2 * v + i * 7919 + 1) * 48271 % 2147483647 * 69621 + i * 104729) % 4294967291, ?_⟩
            unfold bLawDraw
            simp -implicitDefEqProofs [hn3, hv, hneg, hb1, hb2, h0, hLn]
        · refine ⟨((1 - 2 * v + i * 7919 + 1) * 48271 % 2147483647 * 69621 + i * 104729) % 4294967291, ?_⟩
          unfold bLawDraw
          simp -implicitDefEqProofs [hn3, hv, hneg, hb1, h0, hLn]
      · by_cases hb1 : (1000000000000000000 : Int) ≤ v
        · by_cases hb2 : i < scr.length
          · refine ⟨v, ?_⟩
            unfold bLawDraw
            simp -implicitDefEqProofs [hn3, hv, hneg, hb1, hb2, h0, hLn]
          · refine ⟨((v + i * 7919 + 1) * 48271 % 2147483647 * 69621 + i * 104729) % 4294967291, ?_⟩
            unfold bLawDraw
            simp -implicitDefEqProofs [hn3, hv, hneg, hb1, hb2, h0, hLn]
        · refine ⟨((v + i * 7919 + 1) * 48271 % 2147483647 * 69621 + i * 104729) % 4294967291, ?_⟩
          unfold bLawDraw
          simp -implicitDefEqProofs [hn3, hv, hneg, hb1, h0, hLn]
    · have hn2 : ¬ 0 < scr.length := by omega
      refine ⟨((0 + i * 7919 + 1) * 48271 % 2147483647 * 69621 + i * 104729) % 4294967291, ?_⟩
      unfold bLawDraw
      simp -implicitDefEqProofs [hn, hn2, h0, hLn]
  · suffices ∃ ρ', (bLawDraw K hK R).ev [.st, .scr, .d (.int L), .no, .no, .no] ⟨scr, [i, c], [], false, []⟩ = some (.rt (.int (c % L)), ρ', ⟨scr, [i, c / L], [], false, []⟩) by
      obtain ⟨ρ', e⟩ := this
      exact ⟨ρ', _, _, e, (mL _).1, (mL _).2, _, _, rfl, hi⟩
    unfold bLawDraw
    simp -implicitDefEqProofs [hA, h0, hLn]
section
variable {K : PySem.W.Frag} (hK : KF K)
theorem run_draw (n : Nat) (scr : List Int) (st : Ds) (L : Int) (h : Dr0 scr st) (h0 : 0 < L) (h1 : L < 1073741824) :
    ∃ d st', run K hK (n + 1) 13 [.st, .scr, .d (.int L)] st = some (.ok (.int d), st') ∧ 0 ≤ d ∧ d < L ∧ Dr0 scr st' := by
  obtain ⟨ρ', d, st', e, h2, h3, h4⟩ := ev_draw hK (run K hK n) scr st L h h0 h1
  exact ⟨d, st', by rw [stLawDraw]; exact callD_rt rfl e, h2, h3, h4⟩
end
end Lw

namespace Lw
open PySem PySem.Spec PyProof.Rows L2 Dx Dg De
section
variable {K : PySem.W.Frag} (hK : KF K)
theorem run_size : ∀ (n : Nat) (t : Tr) (st : Ds), t.dp ≤ n → t.sz ≤ 100000 → run K hK n 15 [.d t.D] st = some (.ok (.int t.sz), st)
  | 0, .nd x c, st, h, _ => by
    have : 1 + dps c ≤ 0 := h
    omega
  | n + 1, .nd x c, st, h, hz => by
    have hc : dps c ≤ n := by
      have : 1 + dps c ≤ n + 1 := h
      omega
    have hz2 : 1 + szs c ≤ 100000 := hz
    have e : lcEv (gN (CC K) 1) (tYes' (CC K)) (dCall (run K hK n) 15 (aD (dVar (CC K) 1) (aNil (CC K)))) [.d (Tr.nd x c).D, .no] (c.map Tr.D) st = some (c.map fun t => .int t.sz, st) := by
      refine lcEv_mapG fun t ht => ⟨_, rfl, rfl, ?_⟩
      have ih := run_size n t st (Nat.le_trans (dps_mem ht) hc) (by have := szs_mem ht; omega)
      simp [wipeR, gN, ih]
    refine stLawSize.trans (callD_rt (ρ' := [.d (Tr.nd x c).D, .no]) rfl ?_)
    have hl : c.length ≤ 100000 := by have := szs_len c; omega
    have ei : asInts (c.map fun t => PyData.int t.sz) = some (c.map fun t => ((t.sz : Nat) : Int)) := by
      have := asInts_map (c.map fun t => ((t.sz : Nat) : Int))
      rw [List.map_map] at this
      exact this
    rw [Tr.D_nd] at e ⊢
    unfold bLawSize
    simp [e, hl, ei, szs_sum]
    show (1 + (szs c : Nat) : Int) = ((1 + szs c : Nat) : Int)
    omega
end

section
variable {K : PySem.W.Frag} (hK : KF K) (scr : List Int) (nms : List Str) (hn1 : 1 ≤ nms.length) (hn2 : nms.length ≤ 3)
/-- what _law_tree gives -/
def TreeOk (n : Nat) : Prop := ∀ (left : Int) (st : Ds), 1 ≤ left → left ≤ 50 → left.toNat + 1 ≤ n → Dr0 scr st → ∃ (t : Tr) (st' : Ds), run K hK n 14 [.st, .scr, .d (.list (List.map PyData.str nms)), .d (.int left)] st = some (.ok t.D, st') ∧ (t.sz : Int) ≤ left ∧ t.Nm (fun x : Str => x ∈ nms) ∧ Dr0 scr st'
theorem tree_loop (n : Nat) (ih : TreeOk hK scr nms (n + 1)) (x : Str) (tot : Int) (ht : tot ≤ 50) : ∀ (m : Nat) (l : Int) (ts : List Tr) (st : Ds) (z : En), 0 ≤ l → l.toNat ≤ m → l.toNat ≤ n → (szs ts : Int) + l = tot → (∀ t, t ∈ ts → t.Nm (fun x : Str => x ∈ nms)) → Dr0 scr st →
    ∃ (l' : Int) (ts' : List Tr) (st' : Ds) (z' : En), whileL (lLawSomeTree1t K hK (run K hK (n + 1))) (lLawSomeTree1b K hK (run K hK (n + 1))) [.st, .scr, .d (.list (List.map PyData.str nms)), .d (.int l), .d (.str x), .own (ts.map Tr.D), z] st = some (.nx, [.st, .scr, .d (.list (List.map PyData.str nms)), .d (.int l'), .d (.str x), .own (ts'.map Tr.D), z'], st') ∧
      (szs ts' : Int) ≤ tot ∧ (∀ t, t ∈ ts' → t.Nm (fun x : Str => x ∈ nms)) ∧ Dr0 scr st'
  | m, l, ts, st, z, h0, hm, hn, hs, hN, hP => by
    by_cases hl : 0 < l
    · obtain ⟨d, st1, e1, d0, d1, P1⟩ := run_draw hK n scr st 3 hP (by omega) (by omega)
      by_cases hd : 0 < d
      · obtain ⟨c, st2, e2, c0, c1, P2⟩ := run_draw hK n scr st1 l P1 hl (by omega)
        obtain ⟨t, st3, e3, t1, t2, P3⟩ := ih (1 + c) st2 (by omega) (by omega) (by omega) P2
        have hsz : t.sz ≤ 50 := by omega
        have e4 := run_size hK (n + 1) t st3 (by have := t.dp_sz; omega) (by omega)
        have hlen : ts.length < 100000 := by have := szs_len ts; omega
        have hpos := t.sz_pos
        cases m with
        | zero => omega
        | succ m =>
          obtain ⟨l', ts', st', z', e5, r⟩ := tree_loop n ih x tot ht m (l - t.sz) (ts ++ [t]) st3 (.d t.D) (by omega) (by omega) (by omega) (by
            have : szs (ts ++ [t]) = szs ts + t.sz := by rw [szs_app]; rfl
            omega) (fun u hu => (List.mem_append.mp hu).elim (hN u) fun h => by cases List.mem_singleton.mp h; exact t2) P3
          refine ⟨l', ts', st', z', whileL_eq ?_, r⟩
          rw [List.map_append] at e5
          simp only [lLawSomeTree1t, lLawSomeTree1b] at e5 ⊢
          simp [hl, e1, hd, e2, e3, e4, hlen]
          exact e5
      · refine ⟨l, ts, st1, z, whileL_eq ?_, by omega, hN, P1⟩
        simp only [lLawSomeTree1t, lLawSomeTree1b]
        simp [hl, e1, hd]
    · refine ⟨l, ts, st, z, whileL_eq ?_, by omega, hN, hP⟩
      simp only [lLawSomeTree1t, lLawSomeTree1b]
      simp [hl]
include hn1 hn2 in
theorem run_tree : ∀ n, TreeOk hK scr nms n
  | 0 => fun left st h0 h1 h2 _ => by omega
  | 1 => fun left st h0 h1 h2 _ => by omega
  | n + 2 => fun left st h0 h1 h2 hP => by
    obtain ⟨d, st1, e1, d0, d1, P1⟩ := run_draw hK n scr st (nms.length : Int) hP (by omega) (by omega)
    have hx : ∃ x, (List.map PyData.str nms)[d.toNat]? = some (.str x) ∧ (fun x : Str => x ∈ nms) x := by
      have hd : d.toNat < nms.length := by omega
      exact ⟨nms[d.toNat], by rw [List.getElem?_map, List.getElem?_eq_getElem hd]; rfl, List.getElem_mem hd⟩
    obtain ⟨x, hx, hX⟩ := hx
    have hx2 : atI (List.map PyData.str nms) d = some (.str x) := by
      have := De.atI_nat hx
      rw [Int.toNat_of_nonneg d0] at this
      exact this
    obtain ⟨l', ts, st2, z, e2, s2, n2, P2⟩ := tree_loop hK scr nms n (run_tree (n + 1)) x (left - 1) (by omega) (left - 1).toNat (left - 1) [] st1 .no (by omega) (by omega) (by omega) (by show ((0 : Nat) : Int) + (left - 1) = left - 1; omega) (fun t h => by cases h) P1
    have hln : ((List.map PyData.str nms).length : Int) = (nms.length : Int) := by rw [List.length_map]
    refine ⟨.nd x ts, st2, stLawSomeTree.trans (callD_rt (ρ' := [.st, .scr, .d (.list (List.map PyData.str nms)), .d (.int l'), .d (.str x), .own (ts.map Tr.D), z]) rfl ?_), ?_, .nd hX n2, P2⟩
    · unfold bLawSomeTree
      rw [Tr.D_nd]
      simp [e1, hx2]
      rw [show ([] : List PyData) = ([] : List Tr).map Tr.D from rfl, e2]
      simp
    · show ((1 + szs ts : Nat) : Int) ≤ left
      omega
end
end Lw

/-! parts of lists; comparisons of numbers in tuples -/
namespace De
open PySem PySem.Spec PyProof.Rows L2 Dx Dg
section
variable {α : Type} {l : List α} {k : Nat}
theorem cutl_to : Dx.cut l none (some (k : Int)) = l.take k := by
  unfold Dx.cut
  rw [HT.sIx_none, HT.sIx_nat, List.drop_zero, Nat.sub_zero]
  rcases Nat.le_total k l.length with h | h
  · rw [Nat.min_eq_left h]
  · rw [Nat.min_eq_right h, List.take_length, List.take_of_length_le h]
theorem cutl_from : Dx.cut l (some (k : Int)) none = l.drop k := by
  unfold Dx.cut
  rw [HT.sIx_none, HT.sIx_nat]
  rcases Nat.le_total k l.length with h | h
  · rw [Nat.min_eq_left h, ← List.length_drop, List.take_length]
  · rw [Nat.min_eq_right h, Nat.sub_self, List.take_zero, List.drop_of_length_le h]
theorem cutl_from1 : Dx.cut l (some ((k : Int) + 1)) none = l.drop (k + 1) := cutl_from (k := k + 1)
theorem cutl_neg : Dx.cut l none (some (-1)) = l.dropLast := by
  unfold Dx.cut
  rw [HT.sIx_none, List.drop_zero, Nat.sub_zero, List.dropLast_eq_take]
  have : HT.sIx l.length l.length (some (-1)) = l.length - 1 := by
    show (if (-1 : Int) < 0 then (-1 + (l.length : Int)).toNat else min (-1 : Int).toNat l.length) = l.length - 1
    rw [if_pos (by decide)]
    omega
  rw [this]
theorem cutl_tail {x : α} : Dx.cut (x :: l) (some 1) none = l := cutl_from (l := x :: l) (k := 1)
theorem atI_lastI {z : α} (h : l.getLast? = some z) : atI l (-1) = some z := by
  have hne : l ≠ [] := by rintro rfl; cases h
  have e := List.dropLast_concat_getLast hne
  rw [List.getLast?_eq_some_getLast hne] at h
  cases h
  conv => lhs; rw [← e]
  exact De.atI_last
end
/-! numbers -/
abbrev nsD (p : List Nat) : List PyData := p.map fun i => .int ((i : Nat) : Int)
theorem nsD_lay : ∀ p : List Nat, PyData.canLayAll0 (nsD p) = true
  | [] => rfl
  | i :: p => by
    show PyData.canLayAll0 (.int _ :: nsD p) = true
    simp only [PyData.canLayAll0, PyData.canLay0, nsD_lay p, Bool.and_self]
theorem nsD_dp : ∀ p : List Nat, PyData.depthAll (nsD p) = 0
  | [] => rfl
  | i :: p => by
    show PyData.depthAll (.int _ :: nsD p) = 0
    simp only [PyData.depthAll, PyData.depth, nsD_dp p, Nat.max_self]
theorem nsD_sh (p : List Nat) : shW (.tuple (nsD p)) = true := shW_mk (by simp only [PyData.canLay0]; exact nsD_lay p) (by simp only [PyData.depth, nsD_dp]; omega)
theorem nil_sh : shW (.tuple []) = true := by decide
theorem nsD_nil {C : Ct} (p : List Nat) : (oEq C).f (.tuple (nsD p)) (.tuple []) = some (.bool (decide (p = []))) := by
  rw [f_oEqW (nsD_sh p) nil_sh]
  cases p with
  | nil => rfl
  | cons i p => rfl
@[simp] theorem es_sAug {C : Ct} {g : Int → Int → Int} {i : Nat} {a : DE C .pk} {ρ : Rho} {st : Ds} {n : Int} (h : ρ[i]? = some (.d (.int n))) : (sAug g i a).ev ρ st = bindS (a.ev ρ st) ρ fun x st1 => match x with
    | .int m => some (.nx, ρ.set i (.d (.int (g n m))), st1)
    | _ => none := by
  show (match ρ[i]? with
  | some (.d (.int n)) => bindS (a.ev ρ st) ρ fun x st1 => match x with
    | .int m => some (Fl.nx, ρ.set i (.d (.int (g n m))), st1)
    | _ => none
  | _ => none) = _
  rw [h]
section
variable {C : Ct} {x : Str} {i : Nat} {sb : Str → Option Bool} {h : ∀ y b, sb y = some b → PySem.W.exmOne C.K (.ref (C.ca y)) (.ref (C.ca x)) = some b} {body suite : DSt C} {ρ ρ1 ρ2 : Rho} {st st1 st2 : Ds} {e : Xc} {v : PyData}
theorem es_sTry_rt (h1 : body.ev ρ st = some (.rt v, ρ1, st1)) : (sTry x i sb h body suite).ev ρ st = some (.rt v, ρ1, st1) := by
  simp only [sTry, h1]
theorem es_sTry_nx (h1 : body.ev ρ st = some (.nx, ρ1, st1)) : (sTry x i sb h body suite).ev ρ st = some (.nx, ρ1, st1) := by
  simp only [sTry, h1]
theorem es_sTry_xc_rt (h1 : body.ev ρ st = some (.xc e, ρ1, st1)) (h2 : sb e.x = some true) (h3 : noXc ρ1 = true) (h4 : i < ρ1.length) (h5 : suite.ev (ρ1.set i (.xc e)) st1 = some (.rt v, ρ2, st2)) : (sTry x i sb h body suite).ev ρ st = some (.rt v, ρ2.set i .no, st2) := by
  simp only [sTry, h1, h2, h3, h4, h5, and_self, if_true]
theorem es_sTry_xc_nx (h1 : body.ev ρ st = some (.xc e, ρ1, st1)) (h2 : sb e.x = some true) (h3 : noXc ρ1 = true) (h4 : i < ρ1.length) (h5 : suite.ev (ρ1.set i (.xc e)) st1 = some (.nx, ρ2, st2)) (h6 : noXc (ρ2.set i .no) = true) : (sTry x i sb h body suite).ev ρ st = some (.nx, ρ2.set i .no, st2) := by
  simp only [sTry, h1, h2, h3, h4, h5, h6, and_self, if_true]
end
end De

namespace Lw
open PySem PySem.Spec PyProof.Rows L2 Dx Dg De Fv
/-- a table -/
structure Tb' where
  nm : List Str
  bg : List Nat
  sp : List (List Nat)
  fn : List Nat
  ac : List Nat
  many : Nat
structure Tb'.Ok (t : Tb') (nms : List Str) : Prop where
  nd : ∀ x, x ∈ nms → ∃ j, ixS t.nm x = some j ∧ j < t.bg.length
  lb : ∀ b, b ∈ t.bg → b < t.sp.length
  ls : ∀ r, r ∈ t.sp → r.length = t.many ∧ ∀ b, b ∈ r → b < t.sp.length
  lf : t.fn.length = t.sp.length
  lm : ∀ b, b ∈ t.fn → b < t.many
  sz : t.sp.length ≤ 100
  lc : ∀ b, b ∈ t.ac → b < t.many
  mz : t.many ≤ 4
  az : t.ac.length ≤ 4
  nz : t.nm.length ≤ 3
  bz : t.bg.length ≤ 3
def Tb'.bgn (t : Tb') (x : Str) : Nat := match ixS t.nm x with
  | some j => t.bg.getD j 0
  | none => 0
def Tb'.stp (t : Tb') (p s : Nat) : Nat := (t.sp.getD p []).getD s 0
def Tb'.fnn (t : Tb') (p : Nat) : Nat := t.fn.getD p 0
mutual
def stT (T : Tb') : Tr → Nat
  | .nd x cs => T.fnn (goT T (T.bgn x) cs)
def goT (T : Tb') (p : Nat) : List Tr → Nat
  | [] => p
  | c :: r => goT T (T.stp p (stT T c)) r
end
theorem goT_app (T : Tb') : ∀ (a b : List Tr) (p : Nat), goT T p (a ++ b) = goT T (goT T p a) b
  | [], b, p => by rw [List.nil_append, goT]
  | c :: r, b, p => by
    rw [List.cons_append, goT, goT, goT_app T r b]
section
variable {T : Tb'} {nms : List Str} (O : T.Ok nms)
include O
theorem bgn_lt {x : Str} (hx : x ∈ nms) : T.bgn x < T.sp.length := by
  obtain ⟨j, h1, h2⟩ := O.nd x hx
  unfold Tb'.bgn
  rw [h1]
  show T.bg.getD j 0 < _
  rw [List.getD_eq_getElem?_getD, List.getElem?_eq_getElem h2]
  exact O.lb _ (List.getElem_mem h2)
theorem fnn_lt {p : Nat} (hp : p < T.sp.length) : T.fnn p < T.many := by
  unfold Tb'.fnn
  have h : p < T.fn.length := by rw [O.lf]; exact hp
  rw [List.getD_eq_getElem?_getD, List.getElem?_eq_getElem h]
  exact O.lm _ (List.getElem_mem h)
theorem stp_lt {p s : Nat} (hp : p < T.sp.length) (hs : s < T.many) : T.stp p s < T.sp.length := by
  unfold Tb'.stp
  rw [List.getD_eq_getElem?_getD (l := T.sp), List.getElem?_eq_getElem hp]
  obtain ⟨h1, h2⟩ := O.ls _ (List.getElem_mem hp)
  have h : s < T.sp[p].length := by rw [h1]; exact hs
  show T.sp[p].getD s 0 < _
  rw [List.getD_eq_getElem?_getD, List.getElem?_eq_getElem h]
  exact h2 _ (List.getElem_mem h)
mutual
theorem stT_lt : ∀ {t : Tr}, t.Nm (fun x : Str => x ∈ nms) → stT T t < T.many
  | .nd x cs, .nd h1 h2 => by
    rw [stT]
    exact fnn_lt O (goT_lt (bgn_lt O h1) h2)
theorem goT_lt : ∀ {cs : List Tr} {p : Nat}, p < T.sp.length → (∀ t, t ∈ cs → t.Nm (fun x : Str => x ∈ nms)) → goT T p cs < T.sp.length
  | [], p, hp, _ => by rw [goT]; exact hp
  | c :: r, p, hp, h => by
    rw [goT]
    exact goT_lt (stp_lt O hp (stT_lt (h c List.mem_cons_self))) fun t ht => h t (List.mem_cons_of_mem _ ht)
end
end
/-! ### as data -/
def flds (T : Tb') : List PyData := [.tuple (T.nm.map .str), .tuple (nsD T.bg), .tuple (T.sp.map fun r => .tuple (nsD r)), .tuple (nsD T.fn), .tuple (nsD T.ac)]
def TDd (T : Tb') : PyData := .tuple (flds T)
def MT (K : PySem.W.Frag) (T : Tb') : PyData := obD (He.ga K "Table") onTable (flds T)
/-- the kind of a row -/
def kd' (T : Tb') : List Tr → PyData
  | [] => .tuple [.str "none"]
  | [t] => .tuple [.str "one", .int (stT T t : Nat)]
  | _ => .tuple [.str "more"]
def mvs (T : Tb') (row : List Tr) : List Nat := (List.range T.sp.length).map fun p => goT T p row
def AD (T : Tb') (row : List Tr) : PyData := .tuple [kd' T row, .tuple (nsD (mvs T row))]
theorem asStrs_map : ∀ ys : List Str, asStrs (ys.map .str) = some ys
  | [] => rfl
  | y :: r => by show (asStrs (r.map .str)).map _ = _; rw [asStrs_map r]; rfl
theorem ns_at {p : List Nat} {j x : Nat} (h : p[j]? = some x) : atI (nsD p) (j : Nat) = some (.int (x : Nat)) := De.atI_nat (by rw [List.getElem?_map, h]; rfl)
section
variable {K : PySem.W.Frag} (hK : KF K) {T : Tb'} {nms : List Str}
theorem f_names : fldO (He.ga K "Table") "names" (MT K T) = some (.tuple (T.nm.map .str)) := by
  have e : lkD ((onTable.zip (flds T)).map fun p => (PyData.str p.1, p.2)) "names" = some (.tuple (T.nm.map .str)) := by kernel_rfl
  have e2 : fldO (He.ga K "Table") "names" (MT K T) = if ((He.ga K "Table" : Nat) : Int) = ((He.ga K "Table" : Nat) : Int) then lkD ((onTable.zip (flds T)).map fun p => (PyData.str p.1, p.2)) "names" else none := rfl
  rw [e2, if_pos rfl, e]
theorem f_begins : fldO (He.ga K "Table") "begins" (MT K T) = some (.tuple (nsD T.bg)) := by
  have e : lkD ((onTable.zip (flds T)).map fun p => (PyData.str p.1, p.2)) "begins" = some (.tuple (nsD T.bg)) := by kernel_rfl
  have e2 : fldO (He.ga K "Table") "begins" (MT K T) = if ((He.ga K "Table" : Nat) : Int) = ((He.ga K "Table" : Nat) : Int) then lkD ((onTable.zip (flds T)).map fun p => (PyData.str p.1, p.2)) "begins" else none := rfl
  rw [e2, if_pos rfl, e]
theorem f_steps : fldO (He.ga K "Table") "steps" (MT K T) = some (.tuple (T.sp.map fun r => .tuple (nsD r))) := by
  have e : lkD ((onTable.zip (flds T)).map fun p => (PyData.str p.1, p.2)) "steps" = some (.tuple (T.sp.map fun r => .tuple (nsD r))) := by kernel_rfl
  have e2 : fldO (He.ga K "Table") "steps" (MT K T) = if ((He.ga K "Table" : Nat) : Int) = ((He.ga K "Table" : Nat) : Int) then lkD ((onTable.zip (flds T)).map fun p => (PyData.str p.1, p.2)) "steps" else none := rfl
  rw [e2, if_pos rfl, e]
theorem f_finishes : fldO (He.ga K "Table") "finishes" (MT K T) = some (.tuple (nsD T.fn)) := by
  have e : lkD ((onTable.zip (flds T)).map fun p => (PyData.str p.1, p.2)) "finishes" = some (.tuple (nsD T.fn)) := by kernel_rfl
  have e2 : fldO (He.ga K "Table") "finishes" (MT K T) = if ((He.ga K "Table" : Nat) : Int) = ((He.ga K "Table" : Nat) : Int) then lkD ((onTable.zip (flds T)).map fun p => (PyData.str p.1, p.2)) "finishes" else none := rfl
  rw [e2, if_pos rfl, e]
theorem f_accepts : fldO (He.ga K "Table") "accepts" (MT K T) = some (.tuple (nsD T.ac)) := by
  have e : lkD ((onTable.zip (flds T)).map fun p => (PyData.str p.1, p.2)) "accepts" = some (.tuple (nsD T.ac)) := by kernel_rfl
  have e2 : fldO (He.ga K "Table") "accepts" (MT K T) = if ((He.ga K "Table" : Nat) : Int) = ((He.ga K "Table" : Nat) : Int) then lkD ((onTable.zip (flds T)).map fun p => (PyData.str p.1, p.2)) "accepts" else none := rfl
  rw [e2, if_pos rfl, e]
theorem no_t {m : Str} (h : (onTable.all fun f => decide (f ≠ m)) = true) : noO (He.ga K "Table") m (MT K T) = true := by
  have e : ∀ (on : List Str) (xs : List PyData), (on.all fun f => decide (f ≠ m)) = true → lkD ((on.zip xs).map fun p => (PyData.str p.1, p.2)) m = none := by
    intro on
    induction on with
    | nil => intro xs _; rfl
    | cons f on ih =>
      intro xs hh
      cases xs with
      | nil => rfl
      | cons x xs =>
        obtain ⟨h1, h2⟩ := Bool.and_eq_true_iff.mp hh
        show (if f = m then some x else _) = none
        rw [if_neg (of_decide_eq_true h1)]
        exact ih xs h2
  have e2 : noO (He.ga K "Table") m (MT K T) = (decide (((He.ga K "Table" : Nat) : Int) = ((He.ga K "Table" : Nat) : Int)) && (lkD ((onTable.zip (flds T)).map fun p => (PyData.str p.1, p.2)) m).isNone) := rfl
  rw [e2, e _ _ h, decide_eq_true rfl]
  rfl
theorem no_begin : noO (He.ga K "Table") "begin" (MT K T) = true := no_t (by decide +kernel)
theorem no_step : noO (He.ga K "Table") "step" (MT K T) = true := no_t (by decide +kernel)
theorem no_finish : noO (He.ga K "Table") "finish" (MT K T) = true := no_t (by decide +kernel)
theorem no_state : noO (He.ga K "Table") "state" (MT K T) = true := no_t (by decide +kernel)
/-! ### the methods -/
theorem ix_ev (O : T.Ok nms) {x : Str} (hx : x ∈ nms) : ∃ j, fTIx (T.nm.map .str) (.str x) = some (.int (j : Nat)) ∧ atI (nsD T.bg) (j : Nat) = some (.int (T.bgn x : Nat)) := by
  obtain ⟨j, h1, h2⟩ := O.nd x hx
  refine ⟨j, ?_, ns_at ?_⟩
  · show (match asStrs (T.nm.map .str) with | some ys => _ | none => none) = _
    rw [asStrs_map]
    show (ixS T.nm x).map _ = _
    rw [h1]
    rfl
  · unfold Tb'.bgn
    rw [h1, List.getElem?_eq_getElem h2]
    show some _ = some (T.bg.getD j 0)
    rw [List.getD_eq_getElem?_getD, List.getElem?_eq_getElem h2]
    rfl
theorem sp_ev (O : T.Ok nms) {p s : Nat} (hp : p < T.sp.length) (hs : s < T.many) : ∃ r, atI (T.sp.map fun r => PyData.tuple (nsD r)) (p : Nat) = some (.tuple (nsD r)) ∧ atI (nsD r) (s : Nat) = some (.int (T.stp p s : Nat)) := by
  refine ⟨T.sp[p], De.atI_nat (by rw [List.getElem?_map, List.getElem?_eq_getElem hp]; rfl), ns_at ?_⟩
  have h : s < T.sp[p].length := by rw [(O.ls _ (List.getElem_mem hp)).1]; exact hs
  unfold Tb'.stp
  rw [List.getElem?_eq_getElem h, List.getD_eq_getElem?_getD (l := T.sp), List.getElem?_eq_getElem hp]
  show some _ = some (T.sp[p].getD s 0)
  rw [List.getD_eq_getElem?_getD, List.getElem?_eq_getElem h]
  rfl
theorem fn_ev (O : T.Ok nms) {p : Nat} (hp : p < T.sp.length) : atI (nsD T.fn) (p : Nat) = some (.int (T.fnn p : Nat)) := by
  have h : p < T.fn.length := by rw [O.lf]; exact hp
  refine ns_at ?_
  unfold Tb'.fnn
  rw [List.getD_eq_getElem?_getD, List.getElem?_eq_getElem h]
  rfl
theorem run_begin (O : T.Ok nms) (n : Nat) {x : Str} (hx : x ∈ nms) (st : Ds) : run K hK (n + 1) 9 [.d (MT K T), .d (.str x)] st = some (.ok (.int (T.bgn x : Nat)), st) := by
  obtain ⟨j, h1, h2⟩ := ix_ev O hx
  have e1 := f_names (K := K) (T := T)
  have e2 := f_begins (K := K) (T := T)
  rw [stTableBegin]
  refine callD_rt (ρ' := [.d (MT K T), .d (.str x)]) rfl ?_
  unfold bTableBegin
  simp -implicitDefEqProofs [e1, e2, h1, h2]
theorem run_step (O : T.Ok nms) (n : Nat) {p s : Nat} (hp : p < T.sp.length) (hs : s < T.many) (st : Ds) : run K hK (n + 1) 10 [.d (MT K T), .d (.int (p : Nat)), .d (.int (s : Nat))] st = some (.ok (.int (T.stp p s : Nat)), st) := by
  obtain ⟨r, h1, h2⟩ := sp_ev O hp hs
  have e1 := f_steps (K := K) (T := T)
  rw [stTableStep]
  refine callD_rt (ρ' := [.d (MT K T), .d (.int (p : Nat)), .d (.int (s : Nat))]) rfl ?_
  unfold bTableStep
  simp -implicitDefEqProofs [e1, h1, h2]
theorem run_finish (O : T.Ok nms) (n : Nat) {p : Nat} (hp : p < T.sp.length) (st : Ds) : run K hK (n + 1) 11 [.d (MT K T), .d (.int (p : Nat))] st = some (.ok (.int (T.fnn p : Nat)), st) := by
  have h1 := fn_ev O hp
  have e1 := f_finishes (K := K) (T := T)
  rw [stTableFinish]
  refine callD_rt (ρ' := [.d (MT K T), .d (.int (p : Nat))]) rfl ?_
  unfold bTableFinish
  simp -implicitDefEqProofs [e1, h1]
theorem read_loop (O : T.Ok nms) (n : Nat) (A1 A2 : En) (st : Ds) : ∀ (cs : List Tr) (p : Nat) (z : En), p < T.sp.length → (∀ t, t ∈ cs → t.Nm (fun x : Str => x ∈ nms)) →
    ∃ z', forEv (gN (CC K) 4) (lStateOfF01b K hK (run K hK (n + 1))) (cs.map fun t => .int (stT T t : Nat)) [A1, A2, .d (MT K T), .d (.int (p : Nat)), z] st = some (.nx, [A1, A2, .d (MT K T), .d (.int (goT T p cs : Nat)), z'], st)
  | [], p, z, _, _ => ⟨z, by rw [goT]; rfl⟩
  | u :: cs, p, z, hp, h => by
    have hu := stT_lt O (h u List.mem_cons_self)
    obtain ⟨z', ih⟩ := read_loop O n A1 A2 st cs (T.stp p (stT T u)) (.d (.int (stT T u : Nat))) (stp_lt O hp hu) fun t ht => h t (List.mem_cons_of_mem _ ht)
    refine ⟨z', ?_⟩
    rw [List.map_cons, forEv_con (ρ' := [A1, A2, .d (MT K T), .d (.int (p : Nat)), .d (.int (stT T u : Nat))]) rfl]
    have e := run_step hK O n hp hu st
    have e3 := no_step (K := K) (T := T)
    have hb : (lStateOfF01b K hK (run K hK (n + 1))).ev [A1, A2, .d (MT K T), .d (.int (p : Nat)), .d (.int (stT T u : Nat))] st = some (.nx, [A1, A2, .d (MT K T), .d (.int (T.stp p (stT T u) : Nat)), .d (.int (stT T u : Nat))], st) := by
      generalize run K hK (n + 1) = R at *
      unfold lStateOfF01b
      simp -implicitDefEqProofs [e, e3]
    rw [hb, goT]
    exact ih
theorem run_read (O : T.Ok nms) (n : Nat) {x : Str} {cs : List Tr} (h : (Tr.nd x cs).Nm (fun x : Str => x ∈ nms)) (st : Ds) : run K hK (n + 2) 19 [.d (.str x), .d (.list (cs.map fun t => .int (stT T t : Nat))), .d (MT K T)] st = some (.ok (.int (stT T (.nd x cs) : Nat)), st) := by
  have hx : x ∈ nms := by cases h with | nd h1 _ => exact h1
  have hc : ∀ t, t ∈ cs → t.Nm (fun x : Str => x ∈ nms) := by cases h with | nd _ h2 => exact h2
  obtain ⟨z, e⟩ := read_loop hK O n (.d (.str x)) (.d (.list (cs.map fun t => .int (stT T t : Nat)))) st cs (T.bgn x) .no (bgn_lt O hx) hc
  have e1 := run_begin hK O n hx st
  have e2 := run_finish hK O n (goT_lt O (bgn_lt O hx) hc) st
  have e3 := no_begin (K := K) (T := T)
  have e4 := no_finish (K := K) (T := T)
  rw [stStateOfF0, stT]
  refine callD_rt (ρ' := [.d (.str x), .d (.list (cs.map fun t => .int (stT T t : Nat))), .d (MT K T), .d (.int (goT T (T.bgn x) cs : Nat)), z]) rfl ?_
  generalize run K hK (n + 1) = R at *
  generalize (cs.map fun t => PyData.int (stT T t : Nat)) = VS at *
  unfold bStateOfF0
  simp -implicitDefEqProofs [e1, e2, e3, e4, e]
end
end Lw

/-! What folded gives, for any closure. -/
namespace De
open PySem PySem.Spec PyProof.Rows L2 Dx Dg
theorem last_snoc {α : Type} {xs : List α} {x : α} : (xs ++ [x])[(xs ++ [x]).length - 1]? = some x := by simp
theorem set_snoc {α : Type} {xs : List α} {x y : α} : (xs ++ [x]).set ((xs ++ [x]).length - 1) y = xs ++ [y] := by
  rw [List.length_append, List.length_singleton, Nat.add_sub_cancel]
  apply List.ext_getElem?
  intro i
  by_cases h : i = xs.length
  · subst h
    simp
  · rw [List.getElem?_set_ne (fun z => h z.symm)]
    rcases Nat.lt_or_ge i xs.length with z | z
    · rw [List.getElem?_append_left z, List.getElem?_append_left z]
    · rw [List.getElem?_eq_none (by simp; omega), List.getElem?_eq_none (by simp; omega)]
theorem callM_rt {C : Ct} {n m : Nat} {b : DSt C} {as : List En} {st st' : Ds} {x : PyData} {ρ' : Rho} (hl : as.length = n) (hn : noFn as = true) (h : b.ev (as ++ List.replicate m .no) st = some (.rt x, ρ', st')) : callM n m b as st = some (.ok x, st') := by
  unfold callM
  rw [if_pos hn]
  exact callD_rt hl h
section
variable {C : Ct} [Nw C] {R : Tab} {st : Ds} {ρ : Rho}
theorem s3App_v {i j : Nat} {ps : List (PyData × List PyData)} {x y : PyData} {ds : List PyData} (h : ρ[i]? = some (.own3 (ps ++ [(x, ds)]))) (hj : ρ[j]? = some (.d y)) (hl : ds.length < 100000) : (s3App i (dVar C j)).ev ρ st = some (.nx, ρ.set i (.own3 (ps ++ [(x, ds ++ [y])])), st) := by
  rw [es_s3App h last_snoc, ev_dVar hj, bindS_ok, if_pos hl, set_snoc]
/-- the loop's body -/
def foldB (C : Ct) [Nw C] (R : Tab) : DSt C := sFoldV R 1 2 3 4 5 (sSeq (sIf (tVal (dOp (oEq C) (dLook (dLen3 C 2)) (dLook (dInt C 0)))) (sRet (dVar C 5)) (sSkip C)) (s3App 2 (dVar C 5)))
variable {fj : Nat} {cd : List PyData} (hj : fj ∈ C.ji ∧ cd.length = (C.fu fj).length)
include hj in
theorem foldV_push {rest : DSt C} {qs : List (PyData × List PyData)} {n c z0 : PyData} {cs ds : List PyData} {z3 z4 z5 : En} (hl : qs.length + 1 < 100000) (hx : cs[ds.length]? = some c) :
    (sFoldV R 1 2 3 4 5 rest).ev [.d z0, .fn fj (some cd), .own3 (qs ++ [(.tuple [n, .tuple cs], ds)]), z3, z4, z5] st = some (.nx, [.d z0, .fn fj (some cd), .own3 (qs ++ [(.tuple [n, .tuple cs], ds)] ++ [(c, [])]), .no, .no, z5], st) := by
  have h : [En.d z0, .fn fj (some cd), .own3 (qs ++ [(.tuple [n, .tuple cs], ds)]), z3, z4, z5][2]? = some (.own3 (qs ++ [(.tuple [n, .tuple cs], ds)])) := rfl
  have hk : [En.d z0, .fn fj (some cd), .own3 (qs ++ [(.tuple [n, .tuple cs], ds)]), z3, z4, z5][1]? = some (.fn fj (some cd)) := rfl
  simp only [sFoldV, h, hk, last_snoc, hx]
  refine if_pos ⟨hj, by simpa using hl, by simp, by simp, by decide, by decide, by decide, by decide, by decide, by decide⟩
include hj in
theorem foldV_pop {rest : DSt C} {qs : List (PyData × List PyData)} {n r z0 : PyData} {cs ds : List PyData} {z3 z4 z5 : En} {st1 : Ds} (hl : qs.length + 1 < 100000) (hx : cs[ds.length]? = none) (hR : R fj (.d n :: .d (.list ds) :: cd.map .d) st = some (.ok r, st1)) :
    (sFoldV R 1 2 3 4 5 rest).ev [.d z0, .fn fj (some cd), .own3 (qs ++ [(.tuple [n, .tuple cs], ds)]), z3, z4, z5] st = rest.ev [.d z0, .fn fj (some cd), .own3 qs, .no, .no, .d r] st1 := by
  have h : [En.d z0, .fn fj (some cd), .own3 (qs ++ [(.tuple [n, .tuple cs], ds)]), z3, z4, z5][2]? = some (.own3 (qs ++ [(.tuple [n, .tuple cs], ds)])) := rfl
  have hk : [En.d z0, .fn fj (some cd), .own3 (qs ++ [(.tuple [n, .tuple cs], ds)]), z3, z4, z5][1]? = some (.fn fj (some cd)) := rfl
  have hR2 : R fj ([.d n, .d (.list ds)] ++ cd.map .d) st = some (.ok r, st1) := hR
  simp only [sFoldV, h, hk, last_snoc, hx, hR2, List.dropLast_concat]
  refine if_pos ⟨hj, by simpa using hl, by simp, by simp, by decide, by decide, by decide, by decide, by decide, by decide⟩
/-- the stack ends in v -/
def FoldG (C : Ct) [Nw C] (R : Tab) (st : Ds) (z0 : PyData) (fj : Nat) (cd : List PyData) (v : PyData) (ps : List (PyData × List PyData)) : Prop := ∀ z3 z4 z5, ∃ ρ', whileL (tBl (dBool C true)) (foldB C R) [.d z0, .fn fj (some cd), .own3 ps, z3, z4, z5] st = some (.rt v, ρ', st)
variable (F : Tr → PyData)
include hj in
theorem fold_push {z0 v : PyData} {qs : List (PyData × List PyData)} {x : Str} {c : List Tr} {ds : List PyData} {u : Tr} (hl : qs.length + 1 < 100000) (hu : c[ds.length]? = some u) (h : FoldG C R st z0 fj cd v (qs ++ [((Tr.nd x c).D, ds)] ++ [(u.D, [])])) : FoldG C R st z0 fj cd v (qs ++ [((Tr.nd x c).D, ds)]) := by
  intro z3 z4 z5
  obtain ⟨ρ', e⟩ := h .no .no z5
  refine ⟨ρ', whileL_eq ?_⟩
  show loopK ((foldB C R).ev _ st) _ = _
  have hb : (foldB C R).ev [.d z0, .fn fj (some cd), .own3 (qs ++ [((Tr.nd x c).D, ds)]), z3, z4, z5] st = some (.nx, [.d z0, .fn fj (some cd), .own3 (qs ++ [((Tr.nd x c).D, ds)] ++ [(u.D, [])]), .no, .no, z5], st) := by
    rw [Tr.D_nd]
    exact foldV_push hj hl (by rw [List.getElem?_map, hu]; rfl)
  rw [hb, loopK_nx]
  exact e
include hj in
theorem fold_last {z0 : PyData} {x : Str} {c : List Tr} (hR : R fj (.d (.str x) :: .d (.list (c.map F)) :: cd.map .d) st = some (.ok (F (.nd x c)), st)) : FoldG C R st z0 fj cd (F (.nd x c)) [((Tr.nd x c).D, c.map F)] := by
  intro z3 z4 z5
  refine ⟨[.d z0, .fn fj (some cd), .own3 [], .no, .no, .d (F (.nd x c))], whileL_eq ?_⟩
  show loopK ((foldB C R).ev _ st) _ = _
  have hb : (foldB C R).ev [.d z0, .fn fj (some cd), .own3 [((Tr.nd x c).D, c.map F)], z3, z4, z5] st = some (.rt (F (.nd x c)), [.d z0, .fn fj (some cd), .own3 [], .no, .no, .d (F (.nd x c))], st) := by
    rw [Tr.D_nd]
    refine (foldV_pop hj (qs := []) (st1 := st) (by simp) (List.getElem?_eq_none (by simp)) hR).trans ?_
    simp -implicitDefEqProofs
  rw [hb, loopK_rt]
include hj in
theorem fold_pop {z0 v y : PyData} {qs : List (PyData × List PyData)} {x : Str} {c : List Tr} {ds : List PyData} (hR : R fj (.d (.str x) :: .d (.list (c.map F)) :: cd.map .d) st = some (.ok (F (.nd x c)), st)) (hl : qs.length + 2 < 100000) (hd : ds.length < 100000) (h : FoldG C R st z0 fj cd v (qs ++ [(y, ds ++ [F (.nd x c)])])) :
    FoldG C R st z0 fj cd v (qs ++ [(y, ds)] ++ [((Tr.nd x c).D, c.map F)]) := by
  intro z3 z4 z5
  obtain ⟨ρ', e⟩ := h .no .no (.d (F (.nd x c)))
  refine ⟨ρ', whileL_eq ?_⟩
  show loopK ((foldB C R).ev _ st) _ = _
  have hb : (foldB C R).ev [.d z0, .fn fj (some cd), .own3 (qs ++ [(y, ds)] ++ [((Tr.nd x c).D, c.map F)]), z3, z4, z5] st = some (.nx, [.d z0, .fn fj (some cd), .own3 (qs ++ [(y, ds ++ [F (.nd x c)])]), .no, .no, .d (F (.nd x c))], st) := by
    rw [Tr.D_nd]
    refine (foldV_pop hj (qs := qs ++ [(y, ds)]) (st1 := st) (by simpa using hl) (List.getElem?_eq_none (by simp)) hR).trans ?_
    have e1 : (s3App 2 (dVar C 5)).ev [.d z0, .fn fj (some cd), .own3 (qs ++ [(y, ds)]), .no, .no, .d (F (.nd x c))] st = some (.nx, [.d z0, .fn fj (some cd), .own3 (qs ++ [(y, ds ++ [F (.nd x c)])]), .no, .no, .d (F (.nd x c))], st) := s3App_v rfl rfl hd
    have hne : ¬ ((qs.length : Int) + 1 = 0) := by omega
    simp -implicitDefEqProofs [e1, hne, hd]
  rw [hb, loopK_nx]
  exact e
variable (P : Tr → Prop) (hP : ∀ x c u, P (.nd x c) → u ∈ c → P u) (hR : ∀ x c, P (.nd x c) → R fj (.d (.str x) :: .d (.list (c.map F)) :: cd.map .d) st = some (.ok (F (.nd x c)), st))
include hj hP hR
mutual
theorem fold_tree (z0 v : PyData) : ∀ (t : Tr) (qs : List (PyData × List PyData)) (y : PyData) (ds : List PyData), P t → qs.length + t.sz ≤ 90000 → ds.length < 100000 → FoldG C R st z0 fj cd v (qs ++ [(y, ds ++ [F t])]) → FoldG C R st z0 fj cd v (qs ++ [(y, ds)] ++ [(t.D, [])])
  | .nd x c, qs, y, ds, hp, hz, hd, h => by
    have hz2 : qs.length + (1 + szs c) ≤ 90000 := hz
    have g := fold_pop hj F (hR x c hp) (by omega) hd h
    exact fold_row z0 v c [] (qs ++ [(y, ds)]) x (fun u hu => hP x c u hp hu) (by simp; omega) (by have := szs_len c; simp; omega) g
theorem fold_row (z0 v : PyData) : ∀ (c pr : List Tr) (qs : List (PyData × List PyData)) (x : Str), (∀ u, u ∈ c → P u) → qs.length + szs c ≤ 90000 → (pr ++ c).length < 100000 → FoldG C R st z0 fj cd v (qs ++ [((Tr.nd x (pr ++ c)).D, (pr ++ c).map F)]) → FoldG C R st z0 fj cd v (qs ++ [((Tr.nd x (pr ++ c)).D, pr.map F)])
  | [], pr, qs, x, _, _, _, h => by
    rw [List.append_nil] at *
    exact h
  | u :: c, pr, qs, x, hp, hz, hl, h => by
    have hz2 : qs.length + (u.sz + szs c) ≤ 90000 := hz
    refine fold_push hj (u := u) (by omega) (by simp) ?_
    refine fold_tree z0 v u qs _ _ (hp u List.mem_cons_self) (by omega) (by simp at hl ⊢; omega) ?_
    have e : pr ++ u :: c = (pr ++ [u]) ++ c := by simp
    rw [e] at h hl ⊢
    have g := fold_row z0 v c (pr ++ [u]) qs x (fun w hw => hp w (List.mem_cons_of_mem _ hw)) (by omega) hl h
    rw [List.map_append] at g
    exact g
end
theorem fold_ev (t : Tr) (hp : P t) (hz : t.sz ≤ 80000) : ∃ ρ', whileL (tBl (dBool C true)) (foldB C R) [.d t.D, .fn fj (some cd), .own3 [(t.D, [])], .no, .no, .no] st = some (.rt (F t), ρ', st) := by
  obtain ⟨x, c⟩ := t
  have hz2 : 1 + szs c ≤ 80000 := hz
  have g := fold_row hj F P hP hR (Tr.nd x c).D (F (.nd x c)) c [] [] x (fun u hu => hP x c u hp hu) (by simp; omega) (by have := szs_len c; simp; omega) (fold_last hj F (hR x c hp))
  exact g .no .no .no
end
end De

namespace Lw
open PySem PySem.Spec PyProof.Rows L2 Dx Dg De Fv
theorem at3 {a b c d e : PyData} : atI [a, b, c, d, e] 3 = some d := rfl
theorem at4 {a b c d e : PyData} : atI [a, b, c, d, e] 4 = some e := rfl
/-- a tree of the law -/
def Gt (nms : List Str) (t : Tr) : Prop := t.Nm (fun x : Str => x ∈ nms) ∧ t.sz ≤ 100
theorem Gt.kid {nms : List Str} {x : Str} {cs : List Tr} (h : Gt nms (.nd x cs)) : ∀ c, c ∈ cs → Gt nms c ∧ c.sz < (Tr.nd x cs).sz := fun c hc => by
  have hz : 1 + szs cs ≤ 100 := h.2
  have := szs_mem hc
  cases h.1 with
  | nd _ h2 => exact ⟨⟨h2 c hc, by omega⟩, by show c.sz < 1 + szs cs; omega⟩
section
variable {K : PySem.W.Frag} (hK : KF K) {T : Tb'} {nms : List Str}
theorem run_folded (O : T.Ok nms) (n : Nat) (t : Tr) (ht : Gt nms t) (st : Ds) : run K hK (n + 3) 6 [.d t.D, .fn 19 (some [MT K T])] st = some (.ok (.int (stT T t : Nat)), st) := by
  have hz := ht.2
  obtain ⟨ρ', e⟩ := fold_ev (C := CC K) (R := run K hK (n + 2)) (st := st) (fj := 19) (cd := [MT K T]) ⟨by show 19 ∈ jis; decide, rfl⟩ (fun t => .int (stT T t : Nat)) (Gt nms) (fun x c u h hu => (h.kid u hu).1) (fun x c h => run_read hK O n h.1 st) t ht (by omega)
  rw [stFolded]
  refine callD_rt (ρ' := ρ') rfl ?_
  generalize run K hK (n + 2) = R at *
  unfold bFolded
  simp -implicitDefEqProofs
  exact e
theorem run_sof (O : T.Ok nms) (n : Nat) (t : Tr) (ht : Gt nms t) (st : Ds) : run K hK (n + 4) 7 [.d (MT K T), .d t.D] st = some (.ok (.int (stT T t : Nat)), st) := by
  have e := run_folded hK O n t ht st
  rw [stStateOf]
  refine callM_rt (ρ' := [.d (MT K T), .d t.D, .fn 19 none]) rfl rfl ?_
  generalize run K hK (n + 3) = R at *
  have e1 : (aFn (C := CC K) 2 (aNil (CC K))).ev [.d (MT K T), .d t.D, .fn 19 none] st = some (.ok [.fn 19 none], st) := rfl
  have e2 : (sRet (dCallC R 6 19 [0] (aD (dVar (CC K) 1) (aFn 2 (aNil (CC K)))))).ev [.d (MT K T), .d t.D, .fn 19 none] st = some (.rt (.int (stT T t : Nat)), [.d (MT K T), .d t.D, .fn 19 none], st) := by
    simp -implicitDefEqProofs [ev_dCallC, e1, capt, hands, hand, e]
  unfold bStateOf
  show seqS (some (.nx, [.d (MT K T), .d t.D, .fn 19 none], st)) (sRet (dCallC R 6 19 [0] (aD (dVar (CC K) 1) (aFn 2 (aNil (CC K)))))).ev = _
  exact e2
theorem run_tstate (O : T.Ok nms) (n : Nat) (t : Tr) (ht : Gt nms t) (st : Ds) : run K hK (n + 5) 12 [.d (MT K T), .d t.D] st = some (.ok (.int (stT T t : Nat)), st) := by
  have e := run_sof hK O n t ht st
  rw [stTableState]
  refine callD_rt (ρ' := [.d (MT K T), .d t.D]) rfl ?_
  generalize run K hK (n + 4) = R at *
  unfold bTableState
  simp -implicitDefEqProofs [e]
/-! ### the law's own states -/
theorem lstate_loop (O : T.Ok nms) (R : Tab) (A1 : En) (st : Ds) : ∀ (cs : List Tr) (p : Nat) (z : En), p < T.sp.length → (∀ t, t ∈ cs → t.Nm (fun x : Str => x ∈ nms)) → (∀ t, t ∈ cs → R 17 [.d (TDd T), .d t.D] st = some (.ok (.int (stT T t : Nat)), st)) →
    ∃ z', forEv (gN (CC K) 3) (lLawState1b K hK R) (cs.map Tr.D) [.d (TDd T), A1, .d (.int (p : Nat)), z] st = some (.nx, [.d (TDd T), A1, .d (.int (goT T p cs : Nat)), z'], st)
  | [], p, z, _, _, _ => ⟨z, by rw [goT]; rfl⟩
  | u :: cs, p, z, hp, h, hR => by
    have hu := stT_lt O (h u List.mem_cons_self)
    obtain ⟨z', ih⟩ := lstate_loop O R A1 st cs (T.stp p (stT T u)) (.d u.D) (stp_lt O hp hu) (fun t ht => h t (List.mem_cons_of_mem _ ht)) fun t ht => hR t (List.mem_cons_of_mem _ ht)
    refine ⟨z', ?_⟩
    rw [List.map_cons, forEv_con (ρ' := [.d (TDd T), A1, .d (.int (p : Nat)), .d u.D]) rfl]
    have e := hR u List.mem_cons_self
    obtain ⟨r, h1, h2⟩ := sp_ev O hp hu
    have hb : (lLawState1b K hK R).ev [.d (TDd T), A1, .d (.int (p : Nat)), .d u.D] st = some (.nx, [.d (TDd T), A1, .d (.int (T.stp p (stT T u) : Nat)), .d u.D], st) := by
      unfold TDd flds at *
      unfold lLawState1b
      simp -implicitDefEqProofs [e, h1, h2]
    rw [hb, goT]
    exact ih
theorem run_lstate (O : T.Ok nms) : ∀ (n : Nat) (t : Tr) (st : Ds), t.Nm (fun x : Str => x ∈ nms) → t.sz ≤ n → run K hK n 17 [.d (TDd T), .d t.D] st = some (.ok (.int (stT T t : Nat)), st)
  | 0, t, st, _, h => by have := t.sz_pos; omega
  | n + 1, .nd x cs, st, hN, h => by
    have hz : 1 + szs cs ≤ n + 1 := h
    have hx : x ∈ nms := by cases hN with | nd h1 _ => exact h1
    have hc : ∀ t, t ∈ cs → t.Nm (fun x : Str => x ∈ nms) := by cases hN with | nd _ h2 => exact h2
    obtain ⟨z, e⟩ := lstate_loop hK O (run K hK n) (.d (Tr.nd x cs).D) st cs (T.bgn x) .no (bgn_lt O hx) hc fun t ht => run_lstate O n t st (hc t ht) (by have := szs_mem ht; omega)
    obtain ⟨j, h1, h2⟩ := ix_ev O hx
    have h3 := fn_ev O (goT_lt O (bgn_lt O hx) hc)
    rw [stLawState, stT]
    refine callD_rt (ρ' := [.d (TDd T), .d (Tr.nd x cs).D, .d (.int (goT T (T.bgn x) cs : Nat)), z]) rfl ?_
    rw [Tr.D_nd] at *
    generalize run K hK n = R at *
    unfold TDd flds at *
    unfold bLawState
    simp -implicitDefEqProofs [h1, h2, h3, e, at3]
end
end Lw

namespace Lw
open PySem PySem.Spec PyProof.Rows L2 Dx Dg De Fv
theorem nsD_ext {xs : List PyData} {p : List Nat} (hl : xs.length = p.length) (h : ∀ (i : Nat) (x : Nat), p[i]? = some x → xs[i]? = some (.int (x : Nat))) : xs = nsD p := by
  apply List.ext_getElem?
  intro i
  rw [List.getElem?_map]
  cases hp : p[i]? with
  | none =>
    rw [List.getElem?_eq_none (by rw [hl]; exact List.getElem?_eq_none_iff.mp hp)]
    rfl
  | some x =>
    rw [h i x hp]
    rfl
theorem mvs_at {T : Tb'} {row : List Tr} {i : Nat} (h : i < T.sp.length) : (mvs T row)[i]? = some (goT T i row) := by
  unfold mvs
  rw [List.getElem?_map, List.getElem?_range h]
  rfl
theorem mvs_len {T : Tb'} {row : List Tr} : (mvs T row).length = T.sp.length := by
  unfold mvs
  rw [List.length_map, List.length_range]
theorem mvs_nil (T : Tb') : rngD 0 T.sp.length = nsD (mvs T []) := by
  refine nsD_ext (by unfold rngD; rw [mvs_len, List.length_map, List.length_range]) fun i x h => ?_
  have hi : i < T.sp.length := by
    have := (List.getElem?_eq_some_iff.mp h).1
    rw [mvs_len] at this
    exact this
  rw [mvs_at hi] at h
  cases h
  unfold rngD
  rw [List.getElem?_map, List.getElem?_range hi, goT]
  show some (PyData.int (0 + (i : Nat))) = _
  rw [Int.zero_add]
theorem mvs_one (T : Tb') (t : Tr) : (T.sp.map fun r => PyData.int (r.getD (stT T t) 0 : Nat)) = nsD (mvs T [t]) := by
  refine nsD_ext (by rw [mvs_len, List.length_map]) fun i x h => ?_
  have hi : i < T.sp.length := by
    have := (List.getElem?_eq_some_iff.mp h).1
    rw [mvs_len] at this
    exact this
  rw [mvs_at hi] at h
  cases h
  rw [List.getElem?_map, List.getElem?_eq_getElem hi, goT, goT]
  unfold Tb'.stp
  rw [List.getD_eq_getElem?_getD (l := T.sp), List.getElem?_eq_getElem hi]
  rfl
theorem mvs_app (T : Tb') {nms : List Str} (O : T.Ok nms) (a b : List Tr) (ha : ∀ t, t ∈ a → t.Nm (fun x : Str => x ∈ nms)) : ((mvs T a).map fun p => PyData.int ((mvs T b).getD p 0 : Nat)) = nsD (mvs T (a ++ b)) := by
  refine nsD_ext (by rw [mvs_len, List.length_map, mvs_len]) fun i x h => ?_
  have hi : i < T.sp.length := by
    have := (List.getElem?_eq_some_iff.mp h).1
    rw [mvs_len] at this
    exact this
  rw [mvs_at hi] at h
  cases h
  rw [List.getElem?_map, mvs_at hi, goT_app]
  show some (PyData.int ((mvs T b).getD (goT T i a) 0 : Nat)) = _
  rw [List.getD_eq_getElem?_getD, mvs_at (goT_lt O hi ha)]
  rfl
theorem none_sh : shW (.tuple [.str "none"]) = true := by decide +kernel
theorem more_sh : shW (.tuple [.str "more"]) = true := by decide +kernel
theorem kd_lay (T : Tb') (a : List Tr) : shW (kd' T a) = true := by
  match a with
  | [] => exact none_sh
  | [t] =>
    show shW (.tuple [.str "one", .int (stT T t : Nat)]) = true
    refine shW_mk ?_ ?_
    · simp only [PyData.canLay0, PyData.canLayAll0, Bool.and_true]
      decide +kernel
    · simp only [PyData.depth, PyData.depthAll]; omega
  | _ :: _ :: _ => exact more_sh
theorem str_ne1 : (("one" : Str) == "none") = false := by decide +kernel
theorem str_ne2 : (("more" : Str) == "none") = false := by decide +kernel
theorem kd_none {C : Ct} (T : Tb') (a : List Tr) : (oEq C).f (kd' T a) (.tuple [.str "none"]) = some (.bool a.isEmpty) := by
  rw [f_oEqW (kd_lay T a) none_sh]
  match a with
  | [] => kernel_rfl
  | [t] =>
    show some (PyData.bool (PyData.eqv (.tuple [.str "one", .int (stT T t : Nat)]) (.tuple [.str "none"]))) = _
    simp [PyData.eqv, PyData.eqvAll]
  | _ :: _ :: _ =>
    show some (PyData.bool (PyData.eqv (.tuple [.str "more"]) (.tuple [.str "none"]))) = _
    simp only [PyData.eqv, PyData.eqvAll, str_ne2]
    rfl
section
variable {K : PySem.W.Frag} (hK : KF K) {T : Tb'} {nms : List Str}
theorem run_nothing (O : T.Ok nms) (n : Nat) (st : Ds) : run K hK (n + 1) 0 [.d (MT K T)] st = some (.ok (AD T []), st) := by
  have e1 := f_steps (K := K) (T := T)
  have h := O.sz
  have hz : ((T.sp.length : Nat) : Int).natAbs ≤ 100000 := by omega
  have hz2 : T.sp.length ≤ 100000 := by omega
  rw [stNothing]
  refine callD_rt (ρ' := [.d (MT K T)]) rfl ?_
  have hA : AD T [] = .tuple [.tuple [.str "none"], .tuple (rngD 0 T.sp.length)] := by rw [mvs_nil]; rfl
  rw [hA]
  unfold bNothing
  simp -implicitDefEqProofs [e1, hz, hz2]
theorem run_single (O : T.Ok nms) (n : Nat) (t : Tr) (ht : t.Nm (fun x : Str => x ∈ nms)) (st : Ds) : run K hK (n + 1) 1 [.d (MT K T), .d (.int (stT T t : Nat))] st = some (.ok (AD T [t]), st) := by
  have e1 := f_steps (K := K) (T := T)
  have h := O.sz
  have hz2 : T.sp.length ≤ 100000 := by omega
  have hs := stT_lt O ht
  have e : lcEv (gN (CC K) 2) (tYes' (CC K)) (dOp (oIxT (CC K)) (dLook (dVar (CC K) 2)) (dLook (dVar (CC K) 1))) [.d (MT K T), .d (.int (stT T t : Nat)), .no] (T.sp.map fun r => .tuple (nsD r)) st = some (T.sp.map fun r => .int (r.getD (stT T t) 0 : Nat), st) := by
    refine lcEv_mapG fun r hr => ⟨_, rfl, rfl, ?_⟩
    have hl : stT T t < r.length := by rw [(O.ls r hr).1]; exact hs
    have e2 : atI (nsD r) (stT T t : Nat) = some (.int (r.getD (stT T t) 0 : Nat)) := by
      refine ns_at ?_
      rw [List.getElem?_eq_getElem hl, List.getD_eq_getElem?_getD, List.getElem?_eq_getElem hl]
      rfl
    simp -implicitDefEqProofs [wipeR, gN, e2]
  rw [mvs_one] at e
  rw [stSingle]
  refine callD_rt (ρ' := [.d (MT K T), .d (.int (stT T t : Nat)), .no]) rfl ?_
  have hA : AD T [t] = .tuple [.tuple [.str "one", .int (stT T t : Nat)], .tuple (nsD (mvs T [t]))] := rfl
  rw [hA]
  generalize nsD (mvs T [t]) = X at *
  unfold bSingle
  simp -implicitDefEqProofs [e1, e, hz2]
theorem kd_app (T : Tb') (a b : List Tr) : kd' T (a ++ b) = if a = [] then kd' T b else if b = [] then kd' T a else .tuple [.str "more"] := by
  match a, b with
  | [], b => rfl
  | [t], [] => rfl
  | [t], u :: r => rfl
  | t :: u :: r, [] => rw [List.append_nil, if_neg (by simp), if_pos rfl]
  | t :: u :: r, v :: w => rfl
theorem run_beside (O : T.Ok nms) (n : Nat) (a b : List Tr) (ha : ∀ t, t ∈ a → t.Nm (fun x : Str => x ∈ nms)) (st : Ds) : run K hK (n + 1) 2 [.d (AD T a), .d (AD T b)] st = some (.ok (AD T (a ++ b)), st) := by
  have h := O.sz
  have hz2 : (mvs T a).length ≤ 100000 := by rw [mvs_len]; omega
  have k1 := kd_none (C := CC K) T a
  have k2 := kd_none (C := CC K) T b
  have hAa : AD T a = .tuple [kd' T a, .tuple (nsD (mvs T a))] := rfl
  have hAb : AD T b = .tuple [kd' T b, .tuple (nsD (mvs T b))] := rfl
  have hAc : AD T (a ++ b) = .tuple [kd' T (a ++ b), .tuple (nsD (mvs T (a ++ b)))] := rfl
  have e : lcEv (gN (CC K) 3) (tYes' (CC K)) (dOp (oIxT (CC K)) (dLook (dOp (oIxT (CC K)) (dLook (dVar (CC K) 1)) (dLook (dInt (CC K) 1)))) (dLook (dVar (CC K) 3))) [.d (AD T a), .d (AD T b), .d (kd' T (a ++ b)), .no] (nsD (mvs T a)) st = some (nsD (mvs T (a ++ b)), st) := by
    rw [← mvs_app T O a b ha]
    refine lcEv_mapG fun p hp => ⟨_, rfl, rfl, ?_⟩
    have hp2 : p < T.sp.length := by
      unfold mvs at hp
      obtain ⟨i, hi, rfl⟩ := List.mem_map.mp hp
      exact goT_lt O (List.mem_range.mp hi) ha
    have e2 : atI (nsD (mvs T b)) (p : Nat) = some (.int ((mvs T b).getD p 0 : Nat)) := by
      refine ns_at ?_
      rw [List.getD_eq_getElem?_getD, mvs_at hp2]
      rfl
    rw [hAa, hAb]
    generalize nsD (mvs T b) = X at *
    simp -implicitDefEqProofs [wipeR, gN, e2]
  rw [stBeside]
  refine callD_rt (ρ' := [.d (AD T a), .d (AD T b), .d (kd' T (a ++ b)), .no]) rfl ?_
  have hka := kd_app T a b
  have hzl : (nsD (mvs T a)).length ≤ 100000 := by rw [List.length_map]; exact hz2
  rw [hAc]
  rw [hAa, hAb] at e ⊢
  generalize nsD (mvs T a) = X at *
  generalize nsD (mvs T b) = Y at *
  generalize nsD (mvs T (a ++ b)) = Z at *
  generalize kd' T (a ++ b) = kc at *
  unfold bBeside
  by_cases h1 : a = []
  · subst h1
    rw [if_pos rfl] at hka
    subst hka
    simp -implicitDefEqProofs [k1, e, hzl]
  · have k1' : a.isEmpty = false := by cases a with | nil => exact absurd rfl h1 | cons _ _ => rfl
    rw [k1'] at k1
    rw [if_neg h1] at hka
    by_cases h2 : b = []
    · subst h2
      rw [if_pos rfl] at hka
      subst hka
      simp -implicitDefEqProofs [k1, k2, e, hzl]
    · have k2' : b.isEmpty = false := by cases b with | nil => exact absurd rfl h2 | cons _ _ => rfl
      rw [k2'] at k2
      rw [if_neg h2] at hka
      subst hka
      simp -implicitDefEqProofs [k1, k2, e, hzl]
end
end Lw

namespace Lw
open PySem PySem.Spec PyProof.Rows L2 Dx Dg De Fv
theorem str_eqv (x y : Str) : PyData.eqv (.str x) (.str y) = decide (x = y) := by
  simp only [PyData.eqv]
  by_cases h : x = y <;> simp [h]
theorem int_eqv (x y : Int) : PyData.eqv (.int x) (.int y) = decide (x = y) := by
  simp only [PyData.eqv]
  by_cases h : x = y <;> simp [h]
def isD (T : Tb') : List Tr → Bool
  | [t] => T.ac.any fun a => decide (a = stT T t)
  | _ => false
theorem in_ac {C : Ct} (ac : List Nat) (s : Nat) : (oInF C).f (.int (s : Nat)) (.tuple (nsD ac)) = some (.bool (ac.any fun a => decide (a = s))) := by
  have h : (nsD ac).all flD = true := by rw [List.all_map]; exact List.all_eq_true.mpr fun _ _ => rfl
  have e : ((nsD ac).any fun y => PyData.eqv y (.int (s : Nat))) = ac.any fun a => decide (a = s) := by
    rw [List.any_map]
    congr 1
    funext a
    show PyData.eqv (.int (a : Nat)) (.int (s : Nat)) = _
    rw [int_eqv]
    by_cases h : a = s
    · rw [decide_eq_true h, decide_eq_true (by rw [h])]
    · have h2 : ¬ ((a : Nat) : Int) = (s : Nat) := by omega
      rw [decide_eq_false h, decide_eq_false h2]
  show (if flD (.int (s : Nat)) = true ∧ (nsD ac).all flD = true then some (PyData.bool ((nsD ac).any fun y => PyData.eqv y (.int (s : Nat)))) else none) = _
  rw [if_pos ⟨rfl, h⟩, e]
theorem lit_sh1 : shW (.str "one") = true := by decide +kernel
theorem lit_sh2 : shW (.str "none") = true := by decide +kernel
theorem lit_sh3 : shW (.str "more") = true := by decide +kernel
theorem one_one {C : Ct} : (oEq C).f (.str "one") (.str "one") = some (.bool true) := by rw [f_oEqW lit_sh1 lit_sh1, str_eqv]; kernel_rfl
theorem none_one {C : Ct} : (oEq C).f (.str "none") (.str "one") = some (.bool false) := by rw [f_oEqW lit_sh2 lit_sh1, str_eqv]; kernel_rfl
theorem more_one {C : Ct} : (oEq C).f (.str "more") (.str "one") = some (.bool false) := by rw [f_oEqW lit_sh3 lit_sh1, str_eqv]; kernel_rfl
theorem rngD_range (n : Nat) : rngD 0 n = (List.range' 0 n).map fun (i : Nat) => PyData.int (i : Nat) := by
  unfold rngD
  rw [List.range_eq_range']
  exact List.map_congr_left fun i _ => by rw [Int.zero_add]
section
variable {K : PySem.W.Frag} (hK : KF K) {T : Tb'} {nms : List Str}
theorem run_isdoc (n : Nat) (row : List Tr) (st : Ds) : run K hK (n + 1) 5 [.d (MT K T), .d (AD T row)] st = some (.ok (.bool (isD T row)), st) := by
  have e1 := f_accepts (K := K) (T := T)
  rw [stIsDocument]
  refine callD_rt (ρ' := [.d (MT K T), .d (AD T row)]) rfl ?_
  have hA : AD T row = .tuple [kd' T row, .tuple (nsD (mvs T row))] := rfl
  rw [hA]
  generalize nsD (mvs T row) = X at *
  unfold bIsDocument
  match row with
  | [] =>
    have h0 : kd' T [] = .tuple [.str "none"] := rfl
    rw [h0]
    have h1 := none_one (C := CC K)
    simp -implicitDefEqProofs [h1]
    rfl
  | [t] =>
    have h0 : kd' T [t] = .tuple [.str "one", .int (stT T t : Nat)] := rfl
    rw [h0]
    have h1 := one_one (C := CC K)
    have h2 := in_ac (C := CC K) T.ac (stT T t)
    simp -implicitDefEqProofs [-f_oIn, h1, h2, e1]
    rfl
  | _ :: _ :: _ =>
    have h0 : ∀ t u r, kd' T (t :: u :: r) = .tuple [.str "more"] := fun _ _ _ => rfl
    rw [h0]
    have h1 := more_one (C := CC K)
    simp -implicitDefEqProofs [h1]
    rfl
theorem run_above (O : T.Ok nms) (n : Nat) {x : Str} (hx : x ∈ nms) (row : List Tr) (h : ∀ t, t ∈ row → t.Nm (fun x : Str => x ∈ nms)) (st : Ds) : run K hK (n + 2) 3 [.d (MT K T), .d (.str x), .d (AD T row)] st = some (.ok (AD T [.nd x row]), st) := by
  have hb := bgn_lt O hx
  have e1 := run_begin hK O n hx st
  have e2 := run_finish hK O n (goT_lt O hb h) st
  have e3 := no_begin (K := K) (T := T)
  have e4 := no_finish (K := K) (T := T)
  have e5 := run_single hK O n (.nd x row) (.nd hx h) st
  rw [stT] at e5
  have e6 : atI (nsD (mvs T row)) (T.bgn x : Nat) = some (.int (goT T (T.bgn x) row : Nat)) := ns_at (mvs_at hb)
  rw [stAbove]
  refine callD_rt (ρ' := [.d (MT K T), .d (.str x), .d (AD T row)]) rfl ?_
  have hA : AD T row = .tuple [kd' T row, .tuple (nsD (mvs T row))] := rfl
  rw [hA]
  generalize run K hK (n + 1) = R at *
  generalize nsD (mvs T row) = X at *
  generalize AD T [.nd x row] = Z at *
  unfold bAbove
  simp -implicitDefEqProofs [e1, e2, e3, e4, e5, e6]
theorem act_loop (O : T.Ok nms) (n : Nat) (A1 : En) (st : Ds) : ∀ (row pre : List Tr) (z : En), (∀ t, t ∈ pre → t.Nm (fun x : Str => x ∈ nms)) → (∀ t, t ∈ row → Gt nms t) →
    ∃ z', forEv (gN (CC K) 3) (lActionOf1b K hK (run K hK (n + 5))) (row.map Tr.D) [.d (MT K T), A1, .d (AD T pre), z] st = some (.nx, [.d (MT K T), A1, .d (AD T (pre ++ row)), z'], st)
  | [], pre, z, _, _ => ⟨z, by rw [List.append_nil]; rfl⟩
  | t :: row, pre, z, hp, h => by
    have ht := h t List.mem_cons_self
    obtain ⟨z', ih⟩ := act_loop O n A1 st row (pre ++ [t]) (.d t.D) (fun u hu => (List.mem_append.mp hu).elim (hp u) fun w => by cases List.mem_singleton.mp w; exact ht.1) fun u hu => h u (List.mem_cons_of_mem _ hu)
    refine ⟨z', ?_⟩
    rw [List.map_cons, forEv_con (ρ' := [.d (MT K T), A1, .d (AD T pre), .d t.D]) rfl]
    have e1 := run_tstate hK O n t ht st
    have e2 := run_single hK O (n + 4) t ht.1 st
    have e3 := run_beside hK O (n + 4) pre [t] hp st
    have e4 := no_state (K := K) (T := T)
    have hb : (lActionOf1b K hK (run K hK (n + 5))).ev [.d (MT K T), A1, .d (AD T pre), .d t.D] st = some (.nx, [.d (MT K T), A1, .d (AD T (pre ++ [t])), .d t.D], st) := by
      generalize run K hK (n + 5) = R at *
      generalize AD T pre = a at *
      generalize AD T [t] = b at *
      generalize AD T (pre ++ [t]) = c at *
      unfold lActionOf1b
      simp -implicitDefEqProofs [e1, e2, e3, e4]
    rw [hb]
    have ea : pre ++ t :: row = (pre ++ [t]) ++ row := by simp
    rw [ea]
    exact ih
theorem run_action (O : T.Ok nms) (n : Nat) (row : List Tr) (h : ∀ t, t ∈ row → Gt nms t) (st : Ds) : run K hK (n + 6) 4 [.d (MT K T), .d (.tuple (row.map Tr.D))] st = some (.ok (AD T row), st) := by
  obtain ⟨z, e⟩ := act_loop hK O n (.d (.tuple (row.map Tr.D))) st row [] .no (fun t ht => by cases ht) h
  have e1 := run_nothing hK O (n + 4) st
  rw [List.nil_append] at e
  rw [stActionOf]
  refine callD_rt (ρ' := [.d (MT K T), .d (.tuple (row.map Tr.D)), .d (AD T row), z]) rfl ?_
  generalize run K hK (n + 5) = R at *
  generalize AD T row = c at *
  generalize AD T [] = a at *
  unfold bActionOf
  simp -implicitDefEqProofs [e1, e]
/-! ### the law's own -/
theorem lact_in (O : T.Ok nms) (R : Tab) (A1 A2 A3 : En) (st : Ds) : ∀ (cs : List Tr) (p : Nat) (z : En), p < T.sp.length → (∀ t, t ∈ cs → t.Nm (fun x : Str => x ∈ nms)) → (∀ t, t ∈ cs → R 17 [.d (TDd T), .d t.D] st = some (.ok (.int (stT T t : Nat)), st)) →
    ∃ z', forEv (gN (CC K) 5) (lLawAction1b K hK R) (cs.map Tr.D) [.d (TDd T), A1, A2, A3, .d (.int (p : Nat)), z] st = some (.nx, [.d (TDd T), A1, A2, A3, .d (.int (goT T p cs : Nat)), z'], st)
  | [], p, z, _, _, _ => ⟨z, by rw [goT]; rfl⟩
  | u :: cs, p, z, hp, h, hR => by
    have hu := stT_lt O (h u List.mem_cons_self)
    obtain ⟨z', ih⟩ := lact_in O R A1 A2 A3 st cs (T.stp p (stT T u)) (.d u.D) (stp_lt O hp hu) (fun t ht => h t (List.mem_cons_of_mem _ ht)) fun t ht => hR t (List.mem_cons_of_mem _ ht)
    refine ⟨z', ?_⟩
    rw [List.map_cons, forEv_con (ρ' := [.d (TDd T), A1, A2, A3, .d (.int (p : Nat)), .d u.D]) rfl]
    have e := hR u List.mem_cons_self
    obtain ⟨r, h1, h2⟩ := sp_ev O hp hu
    have hb : (lLawAction1b K hK R).ev [.d (TDd T), A1, A2, A3, .d (.int (p : Nat)), .d u.D] st = some (.nx, [.d (TDd T), A1, A2, A3, .d (.int (T.stp p (stT T u) : Nat)), .d u.D], st) := by
      unfold TDd flds at *
      unfold lLawAction1b
      simp -implicitDefEqProofs [e, h1, h2]
    rw [hb, goT]
    exact ih
theorem lact_out (O : T.Ok nms) (R : Tab) (row : List Tr) (A2 : En) (st : Ds) (hN : ∀ t, t ∈ row → t.Nm (fun x : Str => x ∈ nms)) (hR : ∀ t, t ∈ row → R 17 [.d (TDd T), .d t.D] st = some (.ok (.int (stT T t : Nat)), st)) : ∀ (m k : Nat) (z4 z5 : En), k + m = T.sp.length →
    ∃ z4' z5', forEv (gN (CC K) 4) (lLawAction2b K hK R) ((List.range' k m).map fun (i : Nat) => PyData.int (i : Nat)) [.d (TDd T), .d (.tuple (row.map Tr.D)), A2, .own (nsD ((List.range k).map fun p => goT T p row)), z4, z5] st
      = some (.nx, [.d (TDd T), .d (.tuple (row.map Tr.D)), A2, .own (nsD (mvs T row)), z4', z5'], st)
  | 0, k, z4, z5, h => by
    have e : k = T.sp.length := by omega
    subst e
    exact ⟨z4, z5, rfl⟩
  | m + 1, k, z4, z5, h => by
    have hk : k < T.sp.length := by omega
    have hs := O.sz
    obtain ⟨w5, e⟩ := lact_in hK O R (.d (.tuple (row.map Tr.D))) A2 (.own (nsD ((List.range k).map fun p => goT T p row))) st row k z5 hk hN hR
    obtain ⟨z4', z5', ih⟩ := lact_out O R row A2 st hN hR m (k + 1) (.d (.int (goT T k row : Nat))) w5 (by omega)
    refine ⟨z4', z5', ?_⟩
    rw [List.range'_succ, List.map_cons, forEv_con (ρ' := [.d (TDd T), .d (.tuple (row.map Tr.D)), A2, .own (nsD ((List.range k).map fun p => goT T p row)), .d (.int (k : Nat)), z5]) rfl]
    have hx : nsD ((List.range (k + 1)).map fun p => goT T p row) = nsD ((List.range k).map fun p => goT T p row) ++ [.int (goT T k row : Nat)] := by
      rw [List.range_succ, List.map_append, nsD, List.map_append]
      rfl
    have hl : (nsD ((List.range k).map fun p => goT T p row)).length < 100000 := by
      rw [List.length_map, List.length_map, List.length_range]
      omega
    have hb : (lLawAction2b K hK R).ev [.d (TDd T), .d (.tuple (row.map Tr.D)), A2, .own (nsD ((List.range k).map fun p => goT T p row)), .d (.int (k : Nat)), z5] st = some (.nx, [.d (TDd T), .d (.tuple (row.map Tr.D)), A2, .own (nsD ((List.range (k + 1)).map fun p => goT T p row)), .d (.int (goT T k row : Nat)), w5], st) := by
      rw [hx]
      generalize nsD ((List.range k).map fun p => goT T p row) = X at *
      unfold lLawAction2b
      simp -implicitDefEqProofs [e, hl]
    rw [hb]
    exact ih
theorem run_lact (O : T.Ok nms) (n : Nat) (row : List Tr) (hN : ∀ t, t ∈ row → t.Nm (fun x : Str => x ∈ nms)) (hz : ∀ t, t ∈ row → t.sz ≤ n) (hl : row.length ≤ 1000) (st : Ds) : run K hK (n + 1) 18 [.d (TDd T), .d (.tuple (row.map Tr.D))] st = some (.ok (AD T row), st) := by
  have hR : ∀ t, t ∈ row → run K hK n 17 [.d (TDd T), .d t.D] st = some (.ok (.int (stT T t : Nat)), st) := fun t ht => run_lstate hK O n t st (hN t ht) (hz t ht)
  obtain ⟨z4, z5, e⟩ := lact_out hK O (run K hK n) row (.d (kd' T row)) st hN hR T.sp.length 0 .no .no (by omega)
  rw [← rngD_range] at e
  have hs := O.sz
  have hln : T.sp.length < 4611686018427387904 := by omega
  have hrl : row.length ≤ 100000 := by omega
  have e0 : nsD ((List.range 0).map fun p => goT T p row) = [] := rfl
  rw [e0] at e
  have hA : AD T row = .tuple [kd' T row, .tuple (nsD (mvs T row))] := rfl
  rw [stLawAction]
  refine callD_rt (ρ' := [.d (TDd T), .d (.tuple (row.map Tr.D)), .d (kd' T row), .own (nsD (mvs T row)), z4, z5]) rfl ?_
  rw [hA]
  have hT2 : TDd T = .tuple [.tuple (T.nm.map .str), .tuple (nsD T.bg), .tuple (T.sp.map fun r => .tuple (nsD r)), .tuple (nsD T.fn), .tuple (nsD T.ac)] := rfl
  generalize run K hK n = R at *
  generalize nsD (mvs T row) = X at *
  match row with
  | [] =>
    have h0 : kd' T [] = .tuple [.str "none"] := rfl
    rw [h0] at e ⊢
    rw [hT2] at e ⊢
    have e' : forEv (gN (CC K) 4) (lLawAction2b K hK R) (rngD 0 T.sp.length) [.d (.tuple [.tuple (T.nm.map .str), .tuple (nsD T.bg), .tuple (T.sp.map fun r => .tuple (nsD r)), .tuple (nsD T.fn), .tuple (nsD T.ac)]), .d (.tuple []), .d (.tuple [.str "none"]), .own [], .no, .no] st = some (.nx, [.d (.tuple [.tuple (T.nm.map .str), .tuple (nsD T.bg), .tuple (T.sp.map fun r => .tuple (nsD r)), .tuple (nsD T.fn), .tuple (nsD T.ac)]), .d (.tuple []), .d (.tuple [.str "none"]), .own X, z4, z5], st) := e
    unfold bLawAction
    simp -implicitDefEqProofs [hln, e']
  | [t] =>
    have h0 : kd' T [t] = .tuple [.str "one", .int (stT T t : Nat)] := rfl
    have h1 := hR t List.mem_cons_self
    rw [h0] at e ⊢
    rw [hT2] at e h1 ⊢
    have e' : forEv (gN (CC K) 4) (lLawAction2b K hK R) (rngD 0 T.sp.length) [.d (.tuple [.tuple (T.nm.map .str), .tuple (nsD T.bg), .tuple (T.sp.map fun r => .tuple (nsD r)), .tuple (nsD T.fn), .tuple (nsD T.ac)]), .d (.tuple [t.D]), .d (.tuple [.str "one", .int (stT T t : Nat)]), .own [], .no, .no] st = some (.nx, [.d (.tuple [.tuple (T.nm.map .str), .tuple (nsD T.bg), .tuple (T.sp.map fun r => .tuple (nsD r)), .tuple (nsD T.fn), .tuple (nsD T.ac)]), .d (.tuple [t.D]), .d (.tuple [.str "one", .int (stT T t : Nat)]), .own X, z4, z5], st) := e
    unfold bLawAction
    simp -implicitDefEqProofs [hln, h1, e']
  | t :: u :: r =>
    have h0 : kd' T (t :: u :: r) = .tuple [.str "more"] := rfl
    have n0 : ¬ (t :: u :: r).map Tr.D = [] := by simp
    have n1 : ¬ ((t :: u :: r).map Tr.D).length = 1 := by simp
    have n2 : ¬ (((t :: u :: r).map Tr.D).length : Int) = 1 := by simp; omega
    rw [h0] at e ⊢
    rw [hT2] at e ⊢
    generalize (t :: u :: r).map Tr.D = Y at *
    unfold bLawAction
    simp -implicitDefEqProofs [hln, n0, n1, n2, e]
end
end Lw

namespace Lw
open PySem PySem.Spec PyProof.Rows L2 Dx Dg De Fv
theorem tup5 {a b c d e : PyData} {st : Ds} : tupO [.d a, .d b, .d c, .d d, .d e] st = some (.ok (.tuple [a, b, c, d, e]), st) := rfl
theorem rng_cons (lo : Int) (n : Nat) : rngD lo (n + 1) = .int lo :: rngD (lo + 1) n := by
  unfold rngD
  rw [List.range_succ_eq_map, List.map_cons, List.map_map]
  congr 1
  · simp
  · refine List.map_congr_left fun i _ => ?_
    show PyData.int (lo + ((i + 1 : Nat) : Int)) = .int (lo + 1 + (i : Nat))
    congr 1
    omega
section
variable {K : PySem.W.Frag} (hK : KF K) (scr : List Int)
/-- a row of steps -/
theorem row_ev (n : Nat) (A2 A3 A4 A5 A6 A7 A10 A11 : En) (f pl : Nat) (h0 : 1 ≤ pl) (h1 : pl ≤ 100) : ∀ (xs : List PyData) (st : Ds), Dr0 scr st → ∃ (r : List Nat) (st' : Ds),
    lcEv (gN (CC K) 12) (tYes' (CC K)) (dOp (oAdd (CC K)) (dLook (dVar (CC K) 8)) (dLook (dCall (run K hK (n + 1)) 13 (aSt 0 (aSt 1 (aD (dVar (CC K) 9) (aNil (CC K)))))))) [.st, .scr, A2, A3, A4, A5, A6, A7, .d (.int (f : Nat)), .d (.int (pl : Nat)), A10, A11, .no] xs st = some (nsD r, st') ∧ r.length = xs.length ∧ (∀ b, b ∈ r → b < f + pl) ∧ Dr0 scr st'
  | [], st, h => ⟨[], st, rfl, rfl, fun b hb => (by cases hb), h⟩
  | x :: xs, st, h => by
    obtain ⟨d, st1, e1, d0, d1, P1⟩ := run_draw hK n scr st (pl : Nat) h (by omega) (by omega)
    obtain ⟨r, st2, e2, l2, b2, P2⟩ := row_ev n A2 A3 A4 A5 A6 A7 A10 A11 f pl h0 h1 xs st1 P1
    refine ⟨(f + d.toNat) :: r, st2, ?_, by simp [l2], fun b hb => ?_, P2⟩
    · have hb : (dOp (oAdd (CC K)) (dLook (dVar (CC K) 8)) (dLook (dCall (run K hK (n + 1)) 13 (aSt 0 (aSt 1 (aD (dVar (CC K) 9) (aNil (CC K)))))))).ev [.st, .scr, A2, A3, A4, A5, A6, A7, .d (.int (f : Nat)), .d (.int (pl : Nat)), A10, A11, .d x] st = some (.ok (.int ((f + d.toNat : Nat) : Int)), st1) := by
        have e3 : ((f + d.toNat : Nat) : Int) = (f : Nat) + d := by omega
        rw [e3]
        generalize run K hK (n + 1) = R at *
        simp -implicitDefEqProofs [e1]
      have hu : (gN (CC K) 12).up (wipeR [.st, .scr, A2, A3, A4, A5, A6, A7, .d (.int (f : Nat)), .d (.int (pl : Nat)), A10, A11, .no] (gN (CC K) 12).sl) x = some [.st, .scr, A2, A3, A4, A5, A6, A7, .d (.int (f : Nat)), .d (.int (pl : Nat)), A10, A11, .d x] := rfl
      have ht : (tYes' (CC K)).ev [.st, .scr, A2, A3, A4, A5, A6, A7, .d (.int (f : Nat)), .d (.int (pl : Nat)), A10, A11, .d x] st = some (.ok true, st) := rfl
      simp only [lcEv, hu, ht, hb, e2]
      rfl
    · rcases List.mem_cons.mp hb with rfl | hb
      · omega
      · exact b2 b hb
/-- what stands behind some names -/
structure Mid (many : Nat) (top : Nat) (sp : List (List Nat)) (fn : List Nat) : Prop where
  ls : ∀ r, r ∈ sp → r.length = many ∧ ∀ b, b ∈ r → b < top
  lf : fn.length = sp.length
  lm : ∀ b, b ∈ fn → b < many
abbrev spD (sp : List (List Nat)) : List PyData := sp.map fun r => .tuple (nsD r)
theorem in_loop (n : Nat) (many : Nat) (hm1 : 1 ≤ many) (hm2 : many ≤ 4) (A2 A4 A7 A11 : En) (f pl : Nat) (h0 : 1 ≤ pl) (h1 : pl ≤ 4) (hf : f ≤ 50) : ∀ (m : Nat) (lo : Int) (sp : List (List Nat)) (fn : List Nat) (z10 : En) (st : Ds), Dr0 scr st → Mid many (f + pl) sp fn → sp.length + m ≤ 60 →
    ∃ (sp' : List (List Nat)) (fn' : List Nat) (z10' : En) (st' : Ds), forEv (gN (CC K) 10) (lLawTable1b K hK (run K hK (n + 1))) (rngD lo m) [.st, .scr, A2, .d (.int (many : Nat)), A4, .own (spD sp), .own (nsD fn), A7, .d (.int (f : Nat)), .d (.int (pl : Nat)), z10, A11, .no] st
      = some (.nx, [.st, .scr, A2, .d (.int (many : Nat)), A4, .own (spD sp'), .own (nsD fn'), A7, .d (.int (f : Nat)), .d (.int (pl : Nat)), z10', A11, .no], st') ∧ sp'.length = sp.length + m ∧ Mid many (f + pl) sp' fn' ∧ Dr0 scr st'
  | 0, lo, sp, fn, z10, st, h, M, _ => ⟨sp, fn, z10, st, rfl, rfl, M, h⟩
  | m + 1, lo, sp, fn, z10, st, h, M, hz => by
    obtain ⟨r, st1, e1, l1, b1, P1⟩ := row_ev hK scr n A2 (.d (.int (many : Nat))) A4 (.own (spD sp)) (.own (nsD fn)) A7 (.d (.int lo)) A11 f pl h0 (by omega) (rngD 0 many) st h
    obtain ⟨d, st2, e2, d0, d1, P2⟩ := run_draw hK n scr st1 (many : Nat) P1 (by omega) (by omega)
    have hrl : (rngD 0 many).length = many := by unfold rngD; rw [List.length_map, List.length_range]
    have M2 : Mid many (f + pl) (sp ++ [r]) (fn ++ [d.toNat]) := by
      refine ⟨fun x hx => ?_, by simp [M.lf], fun b hb => ?_⟩
      · rcases List.mem_append.mp hx with hx | hx
        · exact M.ls x hx
        · cases List.mem_singleton.mp hx
          exact ⟨l1.trans hrl, b1⟩
      · rcases List.mem_append.mp hb with hb | hb
        · exact M.lm b hb
        · cases List.mem_singleton.mp hb
          omega
    obtain ⟨sp', fn', z10', st', e3, l3, M3, P3⟩ := in_loop n many hm1 hm2 A2 A4 A7 A11 f pl h0 h1 hf m (lo + 1) (sp ++ [r]) (fn ++ [d.toNat]) (.d (.int lo)) st2 P2 M2 (by simp; omega)
    refine ⟨sp', fn', z10', st', ?_, by rw [l3]; simp; omega, M3, P3⟩
    rw [rng_cons, forEv_con (ρ' := [.st, .scr, A2, .d (.int (many : Nat)), A4, .own (spD sp), .own (nsD fn), A7, .d (.int (f : Nat)), .d (.int (pl : Nat)), .d (.int lo), A11, .no]) rfl]
    have hs1 : (spD sp).length < 100000 := by rw [List.length_map]; omega
    have hs2 : (nsD fn).length < 100000 := by rw [List.length_map, M.lf]; omega
    have hmn : many < 4611686018427387904 := by omega
    have hml : (rngD 0 many).length ≤ 100000 := by omega
    have hsp : spD (sp ++ [r]) = spD sp ++ [.tuple (nsD r)] := by rw [spD, List.map_append]; rfl
    have hfn : nsD (fn ++ [d.toNat]) = nsD fn ++ [.int d] := by
      rw [nsD, List.map_append]
      have : ((d.toNat : Nat) : Int) = d := Int.toNat_of_nonneg d0
      show _ ++ [PyData.int (d.toNat : Nat)] = _
      rw [this]
    have hb : (lLawTable1b K hK (run K hK (n + 1))).ev [.st, .scr, A2, .d (.int (many : Nat)), A4, .own (spD sp), .own (nsD fn), A7, .d (.int (f : Nat)), .d (.int (pl : Nat)), .d (.int lo), A11, .no] st = some (.nx, [.st, .scr, A2, .d (.int (many : Nat)), A4, .own (spD (sp ++ [r])), .own (nsD (fn ++ [d.toNat])), A7, .d (.int (f : Nat)), .d (.int (pl : Nat)), .d (.int lo), A11, .no], st2) := by
      rw [hsp, hfn]
      generalize run K hK (n + 1) = R at *
      generalize spD sp = S at *
      generalize nsD fn = F at *
      generalize nsD r = RR at *
      unfold lLawTable1b
      simp -implicitDefEqProofs [e1, e2, hs1, hs2, hmn, hml]
    rw [hb]
    exact e3
end
end Lw

namespace Lw
open PySem PySem.Spec PyProof.Rows L2 Dx Dg De Fv
theorem Mid.up {many top top' : Nat} {sp : List (List Nat)} {fn : List Nat} (h : Mid many top sp fn) (ht : top ≤ top') : Mid many top' sp fn := ⟨fun r hr => ⟨(h.ls r hr).1, fun b hb => Nat.lt_of_lt_of_le ((h.ls r hr).2 b hb) ht⟩, h.lf, h.lm⟩
theorem ixS_mem {x : Str} : ∀ {nm : List Str}, x ∈ nm → ∃ j, ixS nm x = some j ∧ j < nm.length
  | z :: r, h => by
    unfold ixS
    by_cases e : z = x
    · rw [if_pos e]
      exact ⟨0, rfl, Nat.succ_pos _⟩
    · rw [if_neg e]
      obtain ⟨j, h1, h2⟩ := ixS_mem (nm := r) ((List.mem_cons.mp h).resolve_left (fun z => e z.symm))
      exact ⟨j + 1, by rw [h1]; rfl, by simp; omega⟩
section
variable {K : PySem.W.Frag} (hK : KF K) (scr : List Int)
theorem out_loop (n : Nat) (many : Nat) (hm1 : 1 ≤ many) (hm2 : many ≤ 4) (A2 A11 : En) : ∀ (xs : List PyData) (bg : List Nat) (sp : List (List Nat)) (fn : List Nat) (z7 z8 z9 z10 : En) (st : Ds), Dr0 scr st → Mid many sp.length sp fn → (∀ b, b ∈ bg → b < sp.length) → sp.length + 4 * xs.length ≤ 40 → bg.length + xs.length ≤ 100 →
    ∃ (bg' : List Nat) (sp' : List (List Nat)) (fn' : List Nat) (z7' z8' z9' z10' : En) (st' : Ds), forEv (gN (CC K) 7) (lLawTable2b K hK (run K hK (n + 1))) xs [.st, .scr, A2, .d (.int (many : Nat)), .own (nsD bg), .own (spD sp), .own (nsD fn), z7, z8, z9, z10, A11, .no] st
      = some (.nx, [.st, .scr, A2, .d (.int (many : Nat)), .own (nsD bg'), .own (spD sp'), .own (nsD fn'), z7', z8', z9', z10', A11, .no], st') ∧ bg'.length = bg.length + xs.length ∧ Mid many sp'.length sp' fn' ∧ (∀ b, b ∈ bg' → b < sp'.length) ∧ sp'.length ≤ sp.length + 4 * xs.length ∧ Dr0 scr st'
  | [], bg, sp, fn, z7, z8, z9, z10, st, h, M, hb, _, _ => ⟨bg, sp, fn, z7, z8, z9, z10, st, rfl, rfl, M, hb, Nat.le_refl _, h⟩
  | x :: xs, bg, sp, fn, z7, z8, z9, z10, st, h, M, hb, hz, hz2 => by
    have hz' : sp.length + 4 * (xs.length + 1) ≤ 40 := hz
    have hz2' : bg.length + (xs.length + 1) ≤ 100 := hz2
    obtain ⟨d, st1, e1, d0, d1, P1⟩ := run_draw hK n scr st 4 h (by omega) (by omega)
    have hpl : ((d.toNat + 1 : Nat) : Int) = 1 + d := by omega
    obtain ⟨u, st2, e2, u0, u1, P2⟩ := run_draw hK n scr st1 (d.toNat + 1 : Nat) P1 (by omega) (by omega)
    have hbu : (((sp.length + u.toNat : Nat)) : Int) = (sp.length : Nat) + u := by omega
    obtain ⟨sp1, fn1, w10, st3, e3, l3, M3, P3⟩ := in_loop hK scr n many hm1 hm2 A2 (.own (nsD (bg ++ [sp.length + u.toNat]))) (.d x) A11 sp.length (d.toNat + 1) (by omega) (by omega) (by omega) (d.toNat + 1) 0 sp fn z10 st2 P2 (M.up (by omega)) (by omega)
    rw [show sp.length + (d.toNat + 1) = sp1.length from l3.symm] at M3
    obtain ⟨bg', sp', fn', z7', z8', z9', z10', st', e4, l4, M4, b4, s4, P4⟩ := out_loop n many hm1 hm2 A2 A11 xs (bg ++ [sp.length + u.toNat]) sp1 fn1 (.d x) (.d (.int (sp.length : Nat))) (.d (.int (d.toNat + 1 : Nat))) w10 st3 P3 M3 (fun b hb' => by
      rcases List.mem_append.mp hb' with hb' | hb'
      · have := hb b hb'; omega
      · cases List.mem_singleton.mp hb'; omega) (by omega) (by simp; omega)
    refine ⟨bg', sp', fn', z7', z8', z9', z10', st', ?_, by rw [l4]; simp; omega, M4, b4, by simp; omega, P4⟩
    rw [forEv_con (ρ' := [.st, .scr, A2, .d (.int (many : Nat)), .own (nsD bg), .own (spD sp), .own (nsD fn), .d x, z8, z9, z10, A11, .no]) rfl]
    have hs1 : (nsD bg).length < 100000 := by rw [List.length_map]; omega
    have hbg : nsD (bg ++ [sp.length + u.toNat]) = nsD bg ++ [.int ((sp.length : Nat) + u)] := by
      rw [nsD, List.map_append, ← hbu]
      rfl
    have hspl : (spD sp).length = sp.length := List.length_map ..
    have hb2 : (lLawTable2b K hK (run K hK (n + 1))).ev [.st, .scr, A2, .d (.int (many : Nat)), .own (nsD bg), .own (spD sp), .own (nsD fn), .d x, z8, z9, z10, A11, .no] st = some (.nx, [.st, .scr, A2, .d (.int (many : Nat)), .own (nsD (bg ++ [sp.length + u.toNat])), .own (spD sp1), .own (nsD fn1), .d x, .d (.int (sp.length : Nat)), .d (.int (d.toNat + 1 : Nat)), w10, A11, .no], st3) := by
      rw [hbg] at e3 ⊢
      rw [hpl] at e2 e3 ⊢
      have hn : (1 + d).natAbs < 4611686018427387904 := by omega
      have hr : ∀ ρ : Rho, ρ[9]? = some (.d (.int (1 + d))) → (iR1 (dLook (dVar (CC K) 9))).ev ρ st2 = some (.ok (rngD 0 (d.toNat + 1)), st2) := fun ρ h => ev_iR1n (n := d.toNat + 1) (by rw [show (((d.toNat + 1 : Nat)) : Int) = 1 + d from hpl]; simp -implicitDefEqProofs [h]) (by omega)
      generalize run K hK (n + 1) = R at *
      generalize spD sp = S at *
      generalize nsD fn = F at *
      generalize nsD bg = B at *
      unfold lLawTable2b
      simp -implicitDefEqProofs [-ev_iR1, hr, e1, e2, e3, hs1, hspl]
    rw [hb2]
    exact e4
theorem acc_ev (n : Nat) (A2 A3 A4 A5 A6 A7 A8 A9 A10 A11 : En) : ∀ (m lo : Nat) (st : Ds), Dr0 scr st → ∃ (ac : List Nat) (st' : Ds),
    lcEv (gN (CC K) 10) (tVal (dOp (oEq (CC K)) (dLook (dCall (run K hK (n + 1)) 13 (aSt 0 (aSt 1 (aD (dInt (CC K) 2) (aNil (CC K))))))) (dLook (dInt (CC K) 1)))) (dVar (CC K) 10) [.st, .scr, A2, A3, A4, A5, A6, A7, A8, A9, A10, A11, .no] (rngD (lo : Nat) m) st = some (nsD ac, st') ∧ ac.length ≤ m ∧ (∀ b, b ∈ ac → b < lo + m) ∧ Dr0 scr st'
  | 0, lo, st, h => ⟨[], st, rfl, Nat.le_refl _, fun b hb => (by cases hb), h⟩
  | m + 1, lo, st, h => by
    obtain ⟨d, st1, e1, d0, d1, P1⟩ := run_draw hK n scr st 2 h (by omega) (by omega)
    obtain ⟨ac, st2, e2, l2, b2, P2⟩ := acc_ev n A2 A3 A4 A5 A6 A7 A8 A9 A10 A11 m (lo + 1) st1 P1
    have hlo : ((lo : Nat) : Int) + 1 = ((lo + 1 : Nat) : Int) := by omega
    have hu : ∀ x, (gN (CC K) 10).up (wipeR [.st, .scr, A2, A3, A4, A5, A6, A7, A8, A9, A10, A11, .no] (gN (CC K) 10).sl) x = some [.st, .scr, A2, A3, A4, A5, A6, A7, A8, A9, .d x, A11, .no] := fun _ => rfl
    have ht : (tVal (dOp (oEq (CC K)) (dLook (dCall (run K hK (n + 1)) 13 (aSt 0 (aSt 1 (aD (dInt (CC K) 2) (aNil (CC K))))))) (dLook (dInt (CC K) 1)))).ev [.st, .scr, A2, A3, A4, A5, A6, A7, A8, A9, .d (.int (lo : Nat)), A11, .no] st = some (.ok (d == 1), st1) := by
      generalize run K hK (n + 1) = R at *
      simp -implicitDefEqProofs [e1]
    have he : (dVar (CC K) 10).ev [.st, .scr, A2, A3, A4, A5, A6, A7, A8, A9, .d (.int (lo : Nat)), A11, .no] st1 = some (.ok (.int (lo : Nat)), st1) := rfl
    rw [rng_cons, hlo]
    cases hd : (d == 1) with
    | true =>
      rw [hd] at ht
      refine ⟨lo :: ac, st2, ?_, by simp; omega, fun b hb => ?_, P2⟩
      · simp only [lcEv, hu, ht, he, e2]
        rfl
      · rcases List.mem_cons.mp hb with rfl | hb
        · omega
        · have := b2 b hb; omega
    | false =>
      rw [hd] at ht
      refine ⟨ac, st2, ?_, by omega, fun b hb => by have := b2 b hb; omega, P2⟩
      simp only [lcEv, hu, ht, e2]
theorem run_table (n : Nat) (nms : List Str) (hn2 : nms.length ≤ 3) (hso : fSort (.list (nms.map .str)) = some (.list (nms.map .str))) (st : Ds) (h : Dr0 scr st) : ∃ (T : Tb') (st' : Ds), run K hK (n + 2) 16 [.st, .scr, .d (.list (nms.map .str))] st = some (.ok (TDd T), st') ∧ T.Ok nms ∧ Dr0 scr st' := by
  obtain ⟨d, st1, e1, d0, d1, P1⟩ := run_draw hK n scr st 4 h (by omega) (by omega)
  have hm : ((d.toNat + 1 : Nat) : Int) = 1 + d := by omega
  obtain ⟨bg, sp, fn, z7, z8, z9, z10, st2, e2, l2, M2, b2, s2, P2⟩ := out_loop hK scr n (d.toNat + 1) (by omega) (by omega) (.d (.list (nms.map .str))) .no (nms.map .str) [] [] [] .no .no .no .no st1 P1 ⟨fun r hr => (by cases hr), rfl, fun b hb => (by cases hb)⟩ (fun b hb => (by cases hb)) (by simp; omega) (by simp; omega)
  obtain ⟨ac, st3, e3, l3, b3, P3⟩ := acc_ev hK scr n (.d (.list (nms.map .str))) (.d (.int (d.toNat + 1 : Nat))) (.own (nsD bg)) (.own (spD sp)) (.own (nsD fn)) z7 z8 z9 z10 .no (d.toNat + 1) 0 st2 P2
  refine ⟨⟨nms, bg, sp, fn, ac, d.toNat + 1⟩, st3, ?_, ?_, P3⟩
  · have hs : (bSort (CC K)).f (.list (nms.map .str)) = some (.list (nms.map .str)) := hso
    rw [stLawTable]
    refine callD_rt (ρ' := [.st, .scr, .d (.list (nms.map .str)), .d (.int (d.toNat + 1 : Nat)), .own (nsD bg), .own (spD sp), .own (nsD fn), z7, z8, z9, z10, .d (.list (nsD ac)), .no]) rfl ?_
    have hT : TDd ⟨nms, bg, sp, fn, ac, d.toNat + 1⟩ = .tuple [.tuple (nms.map .str), .tuple (nsD bg), .tuple (spD sp), .tuple (nsD fn), .tuple (nsD ac)] := rfl
    rw [hT]
    have hr : ∀ ρ : Rho, ∀ st, ρ[3]? = some (.d (.int (d.toNat + 1 : Nat))) → (iR1 (dLook (dVar (CC K) 3))).ev ρ st = some (.ok (rngD 0 (d.toNat + 1)), st) := fun ρ st h => ev_iR1n (n := d.toNat + 1) (by simp -implicitDefEqProofs [h]) (by omega)
    have hrl : (rngD 0 (d.toNat + 1)).length ≤ 100000 := by unfold rngD; rw [List.length_map, List.length_range]; omega
    have e2' : forEv (gN (CC K) 7) (lLawTable2b K hK (run K hK (n + 1))) (nms.map .str) [.st, .scr, .d (.list (nms.map .str)), .d (.int (d.toNat + 1 : Nat)), .own [], .own [], .own [], .no, .no, .no, .no, .no, .no] st1 = some (.nx, [.st, .scr, .d (.list (nms.map .str)), .d (.int (d.toNat + 1 : Nat)), .own (nsD bg), .own (spD sp), .own (nsD fn), z7, z8, z9, z10, .no, .no], st2) := e2
    have e3' : lcEv (gN (CC K) 10) (tVal (dOp (oEq (CC K)) (dLook (dCall (run K hK (n + 1)) 13 (aSt 0 (aSt 1 (aD (dInt (CC K) 2) (aNil (CC K))))))) (dLook (dInt (CC K) 1)))) (dVar (CC K) 10) [.st, .scr, .d (.list (nms.map .str)), .d (.int (d.toNat + 1 : Nat)), .own (nsD bg), .own (spD sp), .own (nsD fn), z7, z8, z9, z10, .no, .no] (rngD 0 (d.toNat + 1)) st2 = some (nsD ac, st3) := e3
    clear e2 e3
    rw [hm] at *
    have e1' : run K hK (n + 1) 13 [.st, .scr, .d (.int 4)] st = some (.ok (.int d), st1) := e1
    generalize run K hK (n + 1) = R at *
    generalize nsD bg = B at *
    generalize spD sp = S at *
    generalize nsD fn = F at *
    generalize nsD ac = AC at *
    generalize nms.map PyData.str = NM at *
    unfold bLawTable
    simp -implicitDefEqProofs [-ev_iR1, hr, hrl, hs, e1', e2', e3', tup5]
  · have hl2 : bg.length = nms.length := by rw [l2]; simp
    have hs2 : sp.length ≤ 12 := by
      have : sp.length ≤ 0 + 4 * nms.length := by simpa using s2
      omega
    refine ⟨fun x hx => ?_, b2, fun r hr => M2.ls r hr, M2.lf, M2.lm, by show sp.length ≤ 100; omega, fun b hb => by have := b3 b hb; show b < d.toNat + 1; omega, by show d.toNat + 1 ≤ 4; omega, by show ac.length ≤ 4; omega, hn2, by show bg.length ≤ 3; omega⟩
    obtain ⟨j, h1, h2⟩ := ixS_mem hx
    exact ⟨j, h1, by show j < bg.length; omega⟩
end
end Lw

namespace Lw
open PySem PySem.Spec PyProof.Rows L2 Dx Dg De Fv
theorem nsD_inj : ∀ {a b : List Nat}, PyData.eqvAll (nsD a) (nsD b) = true → a = b
  | [], [], _ => rfl
  | [], _ :: _, h => by simp [PyData.eqvAll] at h
  | _ :: _, [], h => by simp [PyData.eqvAll] at h
  | x :: a, y :: b, h => by
    have h : PyData.eqvAll (.int (x : Nat) :: nsD a) (.int (y : Nat) :: nsD b) = true := h
    simp only [PyData.eqvAll, Bool.and_eq_true, int_eqv] at h
    have h1 := of_decide_eq_true h.1
    rw [nsD_inj h.2]
    congr 1
    omega
theorem AD_sh (T : Tb') (row : List Tr) : shW (AD T row) = true := by
  have h1 := kd_lay T row
  have h2 := shW_lay h1
  have h3 : (kd' T row).depth ≤ 190 := of_decide_eq_true (Bool.and_eq_true_iff.mp h1).2
  have h5 : (kd' T row).depth ≤ 2 := by
    match row with
    | [] => show (PyData.tuple [.str "none"]).depth ≤ 2; simp only [PyData.depth, PyData.depthAll]; omega
    | [t] => show (PyData.tuple [.str "one", .int (stT T t : Nat)]).depth ≤ 2; simp only [PyData.depth, PyData.depthAll]; omega
    | _ :: _ :: _ => show (PyData.tuple [.str "more"]).depth ≤ 2; simp only [PyData.depth, PyData.depthAll]; omega
  have h4 := nsD_lay (mvs T row)
  refine shW_mk ?_ ?_
  · show PyData.canLay0 (.tuple [kd' T row, .tuple (nsD (mvs T row))]) = true
    simp only [PyData.canLay0, PyData.canLayAll0, h2, h4, Bool.and_self]
  · show PyData.depth (.tuple [kd' T row, .tuple (nsD (mvs T row))]) ≤ 190
    simp only [PyData.depth, PyData.depthAll, nsD_dp]
    omega
theorem ne_self {C : Ct} {d : PyData} (h : shW d = true) : (oNe C).f d d = some (.bool false) := by
  rw [f_oNeW h h, SeqAt.eqv_refl d (shW_lay h)]
  rfl
theorem eq_self {C : Ct} {d : PyData} (h : shW d = true) : (oEq C).f d d = some (.bool true) := by
  rw [f_oEqW h h, SeqAt.eqv_refl d (shW_lay h)]
theorem int_sh (i : Int) : shW (.int i) = true := shW_mk (by simp only [PyData.canLay0]) (by simp only [PyData.depth]; omega)
theorem bool_sh (b : Bool) : shW (.bool b) = true := shW_mk (by simp only [PyData.canLay0]) (by simp only [PyData.depth]; omega)
def nmsN (d : Nat) : List Str := (["a", "b", "c"] : List Str).take (d + 1)
theorem nms_ok (d : Nat) : 1 ≤ (nmsN d).length ∧ (nmsN d).length ≤ 3 := by
  refine ⟨by unfold nmsN; rw [List.length_take]; simp; omega, by unfold nmsN; rw [List.length_take]; simp; omega⟩
theorem nms_sort {d : Nat} (h : d < 3) : fSort (.list ((nmsN d).map .str)) = some (.list ((nmsN d).map .str)) := by
  have h2 : d = 0 ∨ d = 1 ∨ d = 2 := by omega
  have h3 : sortedS (nmsN d) = true := by rcases h2 with rfl | rfl | rfl <;> decide +kernel
  have h4 := sortS_eq (List.Perm.refl (nmsN d)) h3
  have h5 : (nmsN d).length < 64 := by unfold nmsN; rw [List.length_take]; simp; omega
  show (match asStrs ((nmsN d).map .str) with | some ys => if ys.length < 64 then some (PyData.list ((sortS ys).map .str)) else none | none => none) = _
  rw [asStrs_map]
  show (if (nmsN d).length < 64 then some (PyData.list ((sortS (nmsN d)).map .str)) else none) = _
  rw [if_pos h5, ← h4]
theorem nms_cut {d : Int} (h0 : 0 ≤ d) (h1 : d < 3) : Dx.cut [PyData.str "a", .str "b", .str "c"] none (some (1 + d)) = (nmsN d.toNat).map .str := by
  have e : (1 : Int) + d = ((d.toNat + 1 : Nat) : Int) := by omega
  rw [e, cutl_to]
  unfold nmsN
  rw [List.map_take]
  rfl
section
variable {K : PySem.W.Frag} (hK : KF K) {T : Tb'} {nms : List Str}
theorem run_init (O : T.Ok nms) (n : Nat) (st : Ds) : run K hK (n + 1) 8 [.d (.tuple (T.nm.map .str)), .d (.tuple (nsD T.bg)), .d (.tuple (spD T.sp)), .d (.tuple (nsD T.fn)), .d (.tuple (nsD T.ac))] st = some (.ok (MT K T), st) := by
  have hs := O.sz
  have hz : (spD T.sp).length ≤ 100000 := by rw [List.length_map]; omega
  have hl : T.sp.length ≤ 100000 := by omega
  have e : lcEv (gN (CC K) 6) (tYes' (CC K)) (dB1 (bTup (CC K)) (dLook (dVar (CC K) 6))) [.no, .d (.tuple (T.nm.map .str)), .d (.tuple (nsD T.bg)), .d (.tuple (spD T.sp)), .d (.tuple (nsD T.fn)), .d (.tuple (nsD T.ac)), .no] (spD T.sp) st = some (spD T.sp, st) := by
    refine lcEv_mapG fun r hr => ⟨_, rfl, rfl, ?_⟩
    simp -implicitDefEqProofs [wipeR, gN]
  rw [stTableInit]
  unfold callI bTableInit
  rw [if_pos ⟨rfl, rfl⟩]
  have q1 : (dB1 (bTup (CC K)) (dLook (dVar (CC K) 1))).ev [.no, .d (.tuple (T.nm.map .str)), .d (.tuple (nsD T.bg)), .d (.tuple (spD T.sp)), .d (.tuple (nsD T.fn)), .d (.tuple (nsD T.ac)), .no] st = some (.ok (.tuple (T.nm.map .str)), st) := by simp -implicitDefEqProofs
  have q2 : (dB1 (bTup (CC K)) (dLook (dVar (CC K) 2))).ev [.no, .d (.tuple (T.nm.map .str)), .d (.tuple (nsD T.bg)), .d (.tuple (spD T.sp)), .d (.tuple (nsD T.fn)), .d (.tuple (nsD T.ac)), .no] st = some (.ok (.tuple (nsD T.bg)), st) := by simp -implicitDefEqProofs
  have q4 : (dB1 (bTup (CC K)) (dLook (dVar (CC K) 4))).ev [.no, .d (.tuple (T.nm.map .str)), .d (.tuple (nsD T.bg)), .d (.tuple (spD T.sp)), .d (.tuple (nsD T.fn)), .d (.tuple (nsD T.ac)), .no] st = some (.ok (.tuple (nsD T.fn)), st) := by simp -implicitDefEqProofs
  have q5 : (dB1 (bTup (CC K)) (dLook (dVar (CC K) 5))).ev [.no, .d (.tuple (T.nm.map .str)), .d (.tuple (nsD T.bg)), .d (.tuple (spD T.sp)), .d (.tuple (nsD T.fn)), .d (.tuple (nsD T.ac)), .no] st = some (.ok (.tuple (nsD T.ac)), st) := by simp -implicitDefEqProofs
  have q3 : (dB1 (bTup (CC K)) (dLookN (dLc (iT (dLook (dVar (CC K) 3))) (gN (CC K) 6) (tYes' (CC K)) (dB1 (bTup (CC K)) (dLook (dVar (CC K) 6)))))).ev [.no, .d (.tuple (T.nm.map .str)), .d (.tuple (nsD T.bg)), .d (.tuple (spD T.sp)), .d (.tuple (nsD T.fn)), .d (.tuple (nsD T.ac)), .no] st = some (.ok (.tuple (spD T.sp)), st) := by
    generalize nsD T.bg = B at *
    generalize nsD T.fn = F at *
    generalize nsD T.ac = AC at *
    generalize T.nm.map PyData.str = NM at *
    generalize spD T.sp = S at *
    simp -implicitDefEqProofs [e, hz]
  show (match evInit [("names", (dB1 (bTup (CC K)) (dLook (dVar (CC K) 1)))), ("begins", (dB1 (bTup (CC K)) (dLook (dVar (CC K) 2)))), ("steps", (dB1 (bTup (CC K)) (dLookN (dLc (iT (dLook (dVar (CC K) 3))) (gN (CC K) 6) (tYes' (CC K)) (dB1 (bTup (CC K)) (dLook (dVar (CC K) 6))))))), ("finishes", (dB1 (bTup (CC K)) (dLook (dVar (CC K) 4)))), ("accepts", (dB1 (bTup (CC K)) (dLook (dVar (CC K) 5))))] [.no, .d (.tuple (T.nm.map .str)), .d (.tuple (nsD T.bg)), .d (.tuple (spD T.sp)), .d (.tuple (nsD T.fn)), .d (.tuple (nsD T.ac)), .no] st with | some (xs, st1) => _ | none => _) = _
  simp only [evInit, q1, q2, q3, q4, q5]
  rfl
/-- a drawn row of trees -/
theorem trees_ev (scr : List Int) (n : Nat) (hn1 : 1 ≤ nms.length) (hn2 : nms.length ≤ 3) (left : Nat) (hl1 : 1 ≤ left) (hl2 : left ≤ 5) (hn : left + 1 ≤ n) (A3 A4 A5 A6 A7 A8 A9 A10 A11 A12 A13 A14 : En) : ∀ (xs : List PyData) (st : Ds), Dr0 scr st → ∃ (ts : List Tr) (st' : Ds),
    lcEv (gN (CC K) 15) (tYes' (CC K)) (dCall (run K hK n) 14 (aSt 1 (aSt 0 (aD (dVar (CC K) 2) (aD (dInt (CC K) (left : Nat)) (aNil (CC K))))))) [.scr, .st, .d (.list (nms.map .str)), A3, A4, A5, A6, A7, A8, A9, A10, A11, A12, A13, A14, .no] xs st = some (ts.map Tr.D, st') ∧ ts.length = xs.length ∧ (∀ t, t ∈ ts → t.Nm (fun x : Str => x ∈ nms) ∧ t.sz ≤ left) ∧ Dr0 scr st'
  | [], st, h => ⟨[], st, rfl, rfl, fun c hc => (by cases hc), h⟩
  | x :: xs, st, h => by
    obtain ⟨t, st1, e1, s1, o1, P1⟩ := run_tree hK scr nms hn1 hn2 n (left : Nat) st (by omega) (by omega) (by omega) h
    obtain ⟨ts, st2, e2, l2, g2, P2⟩ := trees_ev scr n hn1 hn2 left hl1 hl2 hn A3 A4 A5 A6 A7 A8 A9 A10 A11 A12 A13 A14 xs st1 P1
    refine ⟨t :: ts, st2, ?_, by simp [l2], fun d hd => ?_, P2⟩
    · have hb : (dCall (run K hK n) 14 (aSt 1 (aSt 0 (aD (dVar (CC K) 2) (aD (dInt (CC K) (left : Nat)) (aNil (CC K))))))).ev [.scr, .st, .d (.list (nms.map .str)), A3, A4, A5, A6, A7, A8, A9, A10, A11, A12, A13, A14, .d x] st = some (.ok t.D, st1) := by
        generalize run K hK n = R at *
        simp -implicitDefEqProofs [e1]
      have hu : (gN (CC K) 15).up (wipeR [.scr, .st, .d (.list (nms.map .str)), A3, A4, A5, A6, A7, A8, A9, A10, A11, A12, A13, A14, .no] (gN (CC K) 15).sl) x = some [.scr, .st, .d (.list (nms.map .str)), A3, A4, A5, A6, A7, A8, A9, A10, A11, A12, A13, A14, .d x] := rfl
      have ht : (tYes' (CC K)).ev [.scr, .st, .d (.list (nms.map .str)), A3, A4, A5, A6, A7, A8, A9, A10, A11, A12, A13, A14, .d x] st = some (.ok true, st) := rfl
      simp only [lcEv, hu, ht, hb, e2]
      rfl
    · rcases List.mem_cons.mp hd with rfl | hd
      · exact ⟨o1, by omega⟩
      · exact g2 d hd
theorem draw_name (scr : List Int) (n : Nat) (hn1 : 1 ≤ nms.length) (hn2 : nms.length ≤ 3) (st : Ds) (h : Dr0 scr st) : ∃ d x st', run K hK (n + 1) 13 [.st, .scr, .d (.int (nms.length : Int))] st = some (.ok (.int d), st') ∧ atI (List.map PyData.str nms) d = some (.str x) ∧ x ∈ nms ∧ Dr0 scr st' := by
  obtain ⟨d, st1, e1, d0, d1, P1⟩ := run_draw hK n scr st (nms.length : Int) h (by omega) (by omega)
  have hd : d.toNat < nms.length := by omega
  refine ⟨d, nms[d.toNat], st1, e1, ?_, List.getElem_mem hd, P1⟩
  have := De.atI_nat (xs := List.map PyData.str nms) (n := d.toNat) (x := .str nms[d.toNat]) (by rw [List.getElem?_map, List.getElem?_eq_getElem hd]; rfl)
  rw [Int.toNat_of_nonneg d0] at this
  exact this
end
end Lw

namespace Lw
open PySem PySem.Spec PyProof.Rows L2 Dx Dg De Fv
/-- a row of the law -/
def Rw' (nms : List Str) (row : List Tr) : Prop := row.length ≤ 4 ∧ ∀ t, t ∈ row → t.Nm (fun x : Str => x ∈ nms) ∧ t.sz ≤ 4
theorem Rw'.nm {nms : List Str} {row : List Tr} (h : Rw' nms row) : ∀ t, t ∈ row → t.Nm (fun x : Str => x ∈ nms) := fun t ht => (h.2 t ht).1
theorem szs_le {k : Nat} : ∀ {row : List Tr}, (∀ t, t ∈ row → t.sz ≤ k) → szs row ≤ k * row.length
  | [], _ => Nat.le_refl _
  | t :: r, h => by
    have h1 := h t List.mem_cons_self
    have h2 := szs_le (row := r) fun u hu => h u (List.mem_cons_of_mem _ hu)
    show t.sz + szs r ≤ k * (r.length + 1)
    rw [Nat.mul_add]
    omega
theorem kd_app1 (T : Tb') (a b : List Tr) : True := trivial
section
variable {K : PySem.W.Frag} (hK : KF K) (scr : List Int) {T : Tb'} {nms : List Str} (hn1 : 1 ≤ nms.length) (hn2 : nms.length ≤ 3) (O : T.Ok nms)
abbrev LR (nms : List Str) (T : Tb') (K : PySem.W.Frag) (rows : List (List Tr)) (z6 z7 z8 z9 z10 z11 z12 z13 z14 : En) : Rho := [.scr, .st, .d (.list (nms.map .str)), .d (TDd T), .d (MT K T), .d (.list (rows.map fun r => .tuple (r.map Tr.D))), z6, z7, z8, z9, z10, z11, z12, z13, z14, .no]
include hn1 hn2 O in
theorem loop1 (rows : List (List Tr)) (z6 z9 z14 : En) (row : List Tr) (hr : Rw' nms row) (x : Str) (hx : x ∈ nms) : ∀ (os : List (List Tr)) (z11 z12 z13 : En) (st : Ds), Dr0 scr st → (∀ o, o ∈ os → Rw' nms o) →
    ∃ z11' z12' z13' st', forEv (gN (CC K) 11) (lLaw1b K hK (run K hK 80)) (os.map fun r => .tuple (r.map Tr.D)) (LR nms T K rows z6 (.d (.tuple (row.map Tr.D))) (.d (AD T row)) z9 (.d (.str x)) z11 z12 z13 z14) st = some (.nx, LR nms T K rows z6 (.d (.tuple (row.map Tr.D))) (.d (AD T row)) z9 (.d (.str x)) z11' z12' z13' z14, st') ∧ Dr0 scr st'
  | [], z11, z12, z13, st, h, _ => ⟨z11, z12, z13, st, rfl, h⟩
  | o :: os, z11, z12, z13, st, h, ho => by
    have hr1 := hr.1
    have hoo := ho o List.mem_cons_self
    have ho1 := hoo.1
    have e1 := run_lact hK O 79 o hoo.nm (fun t ht => by have := (hoo.2 t ht).2; omega) (by omega) st
    have e2 := run_beside hK O 79 row o hr.nm st
    have hro : ∀ t, t ∈ row ++ o → t.Nm (fun x : Str => x ∈ nms) ∧ t.sz ≤ 4 := fun t ht => (List.mem_append.mp ht).elim (hr.2 t) (hoo.2 t)
    have e3 := run_lact hK O 79 (row ++ o) (fun t ht => (hro t ht).1) (fun t ht => by have := (hro t ht).2; omega) (by simp; omega) st
    rw [List.map_append] at e3
    have n1 := ne_self (C := CC K) (AD_sh T (row ++ o))
    have hl1 : (row.map Tr.D).length + (o.map Tr.D).length ≤ 100000 := by rw [List.length_map, List.length_map]; omega
    have mo : shW (.tuple (nsD (mvs T o))) = true := nsD_sh _
    have mr : shW (.tuple (nsD (mvs T row))) = true := nsD_sh _
    have q1 : (oEq (CC K)).f (.tuple (nsD (mvs T o))) (.tuple (nsD (mvs T row))) = some (.bool (PyData.eqv (.tuple (nsD (mvs T o))) (.tuple (nsD (mvs T row))))) := f_oEqW mo mr
    have hAo : AD T o = .tuple [kd' T o, .tuple (nsD (mvs T o))] := rfl
    have hAr : AD T row = .tuple [kd' T row, .tuple (nsD (mvs T row))] := rfl
    cases hq : PyData.eqv (.tuple (nsD (mvs T o))) (.tuple (nsD (mvs T row))) with
    | false =>
      rw [hq] at q1
      obtain ⟨y11, y12, y13, st', e9, P9⟩ := loop1 rows z6 z9 z14 row hr x hx os (.d (.tuple (o.map Tr.D))) z12 z13 st h fun u hu => ho u (List.mem_cons_of_mem _ hu)
      refine ⟨y11, y12, y13, st', ?_, P9⟩
      rw [List.map_cons, forEv_con (ρ' := LR nms T K rows z6 (.d (.tuple (row.map Tr.D))) (.d (AD T row)) z9 (.d (.str x)) (.d (.tuple (o.map Tr.D))) z12 z13 z14) rfl]
      have hb : (lLaw1b K hK (run K hK 80)).ev (LR nms T K rows z6 (.d (.tuple (row.map Tr.D))) (.d (AD T row)) z9 (.d (.str x)) (.d (.tuple (o.map Tr.D))) z12 z13 z14) st = some (.nx, LR nms T K rows z6 (.d (.tuple (row.map Tr.D))) (.d (AD T row)) z9 (.d (.str x)) (.d (.tuple (o.map Tr.D))) z12 z13 z14, st) := by
        rw [hAo] at e1 e2
        rw [hAr] at e2 ⊢
        generalize AD T (row ++ o) = X at *
        generalize run K hK 80 = R at *
        generalize nsD (mvs T o) = MO at *
        generalize nsD (mvs T row) = MR at *
        generalize kd' T row = KR at *
        generalize kd' T o = KO at *
        generalize row.map Tr.D = RD at *
        generalize o.map Tr.D = OD at *
        unfold lLaw1b
        simp -implicitDefEqProofs [e1, e2, e3, n1, hl1, q1]
      rw [hb]
      exact e9
    | true =>
      rw [hq] at q1
      simp only [PyData.eqv] at hq
      have hm := nsD_inj hq
      obtain ⟨d, st1, e4, d0, d1, P1⟩ := run_draw hK 79 scr st 3 h (by omega) (by omega)
      obtain ⟨lf, st2, e5, l5, g5, P2⟩ := trees_ev hK scr (nms := nms) 80 hn1 hn2 3 (by omega) (by omega) (by omega) (.d (TDd T)) (.d (MT K T)) (.d (.list (rows.map fun r => .tuple (r.map Tr.D)))) z6 (.d (.tuple (row.map Tr.D))) (.d (AD T row)) z9 (.d (.str x)) (.d (.tuple (o.map Tr.D))) z12 z13 z14 (rngD 0 d.toNat) st1 P1
      have hll : lf.length ≤ 2 := by
        rw [l5]
        unfold rngD
        rw [List.length_map, List.length_range]
        omega
      have hlz := szs_le (fun t ht => (g5 t ht).2)
      have hrz := szs_le (fun t ht => (hr.2 t ht).2)
      have hoz := szs_le (fun t ht => (hoo.2 t ht).2)
      have hN : ∀ (m : List Tr), (∀ t, t ∈ m → t.Nm (fun x : Str => x ∈ nms)) → (Tr.nd x (lf ++ m ++ lf)).Nm (fun x : Str => x ∈ nms) := fun m hm => .nd hx fun t ht => by
        rcases List.mem_append.mp ht with ht | ht
        · exact (List.mem_append.mp ht).elim (fun z => (g5 t z).1) (hm t)
        · exact (g5 t ht).1
      have hSz : ∀ (m : List Tr), szs m ≤ 16 → (Tr.nd x (lf ++ m ++ lf)).sz ≤ 80 := fun m hm => by
        show 1 + szs (lf ++ m ++ lf) ≤ 80
        rw [szs_app, szs_app]
        omega
      have s1 := run_lstate hK O 80 (.nd x (lf ++ row ++ lf)) st2 (hN row hr.nm) (hSz row (by omega))
      have s2 := run_lstate hK O 80 (.nd x (lf ++ o ++ lf)) st2 (hN o hoo.nm) (hSz o (by omega))
      have hsame : stT T (.nd x (lf ++ o ++ lf)) = stT T (.nd x (lf ++ row ++ lf)) := by
        rw [stT, stT, goT_app, goT_app, goT_app, goT_app]
        have hp := goT_lt O (bgn_lt O hx) fun t ht => (g5 t ht).1
        have h1 := mvs_at (row := o) hp
        have h2 := mvs_at (row := row) hp
        rw [hm, h2] at h1
        rw [Option.some.inj h1]
      rw [hsame] at s2
      rw [Tr.D_nd, List.map_append, List.map_append] at s1 s2
      have n2 := ne_self (C := CC K) (int_sh (stT T (.nd x (lf ++ row ++ lf)) : Nat))
      obtain ⟨y11, y12, y13, st', e9, P9⟩ := loop1 rows z6 z9 z14 row hr x hx os (.d (.tuple (o.map Tr.D))) (.d (.tuple (lf.map Tr.D))) (.d (.int (stT T (.nd x (lf ++ row ++ lf)) : Nat))) st2 P2 fun u hu => ho u (List.mem_cons_of_mem _ hu)
      refine ⟨y11, y12, y13, st', ?_, P9⟩
      rw [List.map_cons, forEv_con (ρ' := LR nms T K rows z6 (.d (.tuple (row.map Tr.D))) (.d (AD T row)) z9 (.d (.str x)) (.d (.tuple (o.map Tr.D))) z12 z13 z14) rfl]
      have hrl : (rngD 0 d.toNat).length ≤ 100000 := by unfold rngD; rw [List.length_map, List.length_range]; omega
      have l2 : (lf.map Tr.D).length + (row.map Tr.D).length ≤ 100000 := by rw [List.length_map, List.length_map]; omega
      have l3 : (lf.map Tr.D).length + (o.map Tr.D).length ≤ 100000 := by rw [List.length_map, List.length_map]; omega
      have l4 : (lf.map Tr.D ++ row.map Tr.D).length + (lf.map Tr.D).length ≤ 100000 := by rw [List.length_append, List.length_map, List.length_map]; omega
      have l6 : (lf.map Tr.D ++ o.map Tr.D).length + (lf.map Tr.D).length ≤ 100000 := by rw [List.length_append, List.length_map, List.length_map]; omega
      have hb : (lLaw1b K hK (run K hK 80)).ev (LR nms T K rows z6 (.d (.tuple (row.map Tr.D))) (.d (AD T row)) z9 (.d (.str x)) (.d (.tuple (o.map Tr.D))) z12 z13 z14) st = some (.nx, LR nms T K rows z6 (.d (.tuple (row.map Tr.D))) (.d (AD T row)) z9 (.d (.str x)) (.d (.tuple (o.map Tr.D))) (.d (.tuple (lf.map Tr.D))) (.d (.int (stT T (.nd x (lf ++ row ++ lf)) : Nat))) z14, st2) := by
        have e4' : run K hK 80 13 [.st, .scr, .d (.int 3)] st = some (.ok (.int d), st1) := e4
        have hr2 : ∀ ρ : Rho, ρ[0]? = some .scr → ρ[1]? = some .st → (iR1 (dLook (dCall (run K hK 80) 13 (aSt 1 (aSt 0 (aD (dInt (CC K) 3) (aNil (CC K)))))))).ev ρ st = some (.ok (rngD 0 d.toNat), st1) := fun ρ h1 h2 => ev_iR1n (n := d.toNat) (by rw [Int.toNat_of_nonneg d0]; generalize run K hK 80 = R at *; simp -implicitDefEqProofs [h1, h2, e4']) (by omega)
        have e5' : lcEv (gN (CC K) 15) (tYes' (CC K)) (dCall (run K hK 80) 14 (aSt 1 (aSt 0 (aD (dVar (CC K) 2) (aD (dInt (CC K) 3) (aNil (CC K))))))) (LR nms T K rows z6 (.d (.tuple (row.map Tr.D))) (.d (AD T row)) z9 (.d (.str x)) (.d (.tuple (o.map Tr.D))) z12 z13 z14) (rngD 0 d.toNat) st1 = some (lf.map Tr.D, st2) := e5
        have n2' : (oNe (CC K)).f (.int (stT T (.nd x (lf ++ row ++ lf)) : Nat)) (.int (stT T (.nd x (lf ++ row ++ lf)) : Nat)) = some (.bool false) := n2
        clear e5 e4 n2
        generalize hSS : stT T (.nd x (lf ++ row ++ lf)) = SS at *
        rw [hAo] at e1 e2
        rw [hAr] at e2 e5' ⊢
        generalize AD T (row ++ o) = X at *
        generalize run K hK 80 = R at *
        generalize nsD (mvs T o) = MO at *
        generalize nsD (mvs T row) = MR at *
        generalize kd' T row = KR at *
        generalize kd' T o = KO at *
        generalize row.map Tr.D = RD at *
        generalize o.map Tr.D = OD at *
        generalize lf.map Tr.D = LD at *
        have l4' : LD.length + RD.length + LD.length ≤ 100000 := by rw [List.length_append] at l4; exact l4
        have l6' : LD.length + OD.length + LD.length ≤ 100000 := by rw [List.length_append] at l6; exact l6
        have a4 : LD.length + (RD.length + LD.length) ≤ 100000 := by omega
        have a6 : LD.length + (OD.length + LD.length) ≤ 100000 := by omega
        have s1' := s1
        have s2' := s2
        rw [List.append_assoc] at s1' s2'
        unfold lLaw1b
        simp -implicitDefEqProofs [-ev_iR1, e1, e2, e3, n1, hl1, q1, hr2, e5', hrl, l2, l3, l4, l6, l4', l6', a4, a6, s1, s2, s1', s2', n2']
      rw [hb]
      exact e9
end
end Lw

namespace Lw
open PySem PySem.Spec PyProof.Rows L2 Dx Dg De Fv
theorem seq_nx {C : Ct} {a b : DSt C} {ρ ρ' : Rho} {st st' : Ds} (h : a.ev ρ st = some (.nx, ρ', st')) : (sSeq a b).ev ρ st = b.ev ρ' st' := by
  rw [es_sSeq, h]
  rfl
section
variable {K : PySem.W.Frag} (hK : KF K) (scr : List Int) {T : Tb'} {nms : List Str} (hn1 : 1 ≤ nms.length) (hn2 : nms.length ≤ 3) (O : T.Ok nms)
theorem isd_and (row : List Tr) (z : PyData) (z2 z6 z7 z9 z10 z11 z12 z13 z14 : En) (st : Ds) (hl : row.length ≤ 4) :
    (dAnd (dOp (oEq (CC K)) (dLook (dB1 (bLen (CC K)) (dLook (dVar (CC K) 7)))) (dLook (dInt (CC K) 1))) (dOp (oInF (CC K)) (dLook (dOp (oIxT (CC K)) (dLook (dOp (oIxT (CC K)) (dLook (dVar (CC K) 8)) (dLook (dInt (CC K) 0)))) (dLook (dInt (CC K) 1)))) (dLook (dOp (oIxT (CC K)) (dLook (dVar (CC K) 3)) (dLook (dInt (CC K) 4)))))).ev [.scr, .st, z2, .d (TDd T), .d (MT K T), .d z, z6, .d (.tuple (row.map Tr.D)), .d (AD T row), z9, z10, z11, z12, z13, z14, .no] st = some (.ok (.bool (isD T row)), st) := by
  generalize MT K T = M
  match row, hl with
  | [], _ =>
    have hA : AD T [] = .tuple [.tuple [.str "none"], .tuple (nsD (mvs T []))] := rfl
    rw [hA]
    generalize nsD (mvs T []) = V
    simp -implicitDefEqProofs [isD]
  | [t], _ =>
    have hA : AD T [t] = .tuple [.tuple [.str "one", .int (stT T t : Nat)], .tuple (nsD (mvs T [t]))] := rfl
    have hT : TDd T = .tuple (flds T) := rfl
    have h4 : flds T = [.tuple (T.nm.map .str), .tuple (nsD T.bg), .tuple (spD T.sp), .tuple (nsD T.fn), .tuple (nsD T.ac)] := rfl
    have ha := in_ac (C := CC K) T.ac (stT T t)
    rw [hA, hT, h4]
    generalize nsD (mvs T [t]) = V
    generalize T.nm.map PyData.str = V1
    generalize nsD T.bg = V2
    generalize spD T.sp = V3
    generalize nsD T.fn = V4
    unfold isD
    generalize nsD T.ac = V5 at *
    have ha' : fIn false (.int (stT T t : Nat)) (.tuple V5) = some (.bool (T.ac.any fun a => decide (a = stT T t))) := ha
    have a4 : atI [PyData.tuple V1, .tuple V2, .tuple V3, .tuple V4, .tuple V5] 4 = some (.tuple V5) := rfl
    simp -implicitDefEqProofs [ha', a4]
  | t :: u :: r, _ =>
    generalize AD T (t :: u :: r) = A
    have hne : ¬ (((r.length : Int) + 1 + 1) = 1) := by omega
    have hne2 : (((r.length : Int) + 1 + 1) == 1) = false := by rw [beq_eq_false_iff_ne]; exact hne
    simp -implicitDefEqProofs [isD, hne, hne2]
include hn1 hn2 O in
theorem loop2 (rows : List (List Tr)) (hrs : ∀ o, o ∈ rows → Rw' nms o) (z6 z14 : En) : ∀ (os : List (List Tr)) (z7 z8 z9 z10 z11 z12 z13 : En) (st : Ds), Dr0 scr st → (∀ o, o ∈ os → Rw' nms o) →
    ∃ z7' z8' z9' z10' z11' z12' z13' st', forEv (gN (CC K) 7) (lLaw2b K hK (run K hK 80)) (os.map fun r => .tuple (r.map Tr.D)) (LR nms T K rows z6 z7 z8 z9 z10 z11 z12 z13 z14) st = some (.nx, LR nms T K rows z6 z7' z8' z9' z10' z11' z12' z13' z14, st') ∧ Dr0 scr st'
  | [], z7, z8, z9, z10, z11, z12, z13, st, h, _ => ⟨z7, z8, z9, z10, z11, z12, z13, st, rfl, h⟩
  | row :: os, z7, z8, z9, z10, z11, z12, z13, st, h, ho => by
    have hr := ho row List.mem_cons_self
    have hr1 := hr.1
    have e1 := run_lact hK O 79 row hr.nm (fun t ht => by have := (hr.2 t ht).2; omega) (by omega) st
    have e2 := run_action hK O 74 row (fun t ht => ⟨(hr.2 t ht).1, by have := (hr.2 t ht).2; omega⟩) st
    have n1 := ne_self (C := CC K) (AD_sh T row)
    have e3 := run_isdoc hK (T := T) 79 row st
    have n3 := ne_self (C := CC K) (bool_sh (isD T row))
    obtain ⟨d, x, st1, e4, a4, hx, P1⟩ := draw_name hK scr 79 hn1 hn2 st h
    have e5 := run_above hK O 78 hx row hr.nm st1
    have hz := szs_le (fun t ht => (hr.2 t ht).2)
    have e6 := run_lact hK O 79 [.nd x row] (fun t ht => by rw [List.mem_singleton.mp ht]; exact .nd hx hr.nm) (fun t ht => by rw [List.mem_singleton.mp ht]; show 1 + szs row ≤ 79; omega) (by simp) st1
    have n2 := ne_self (C := CC K) (AD_sh T [.nd x row])
    obtain ⟨y11, y12, y13, st2, e7, P2⟩ := loop1 hK scr hn1 hn2 O rows z6 (.d (.bool (isD T row))) z14 row hr x hx rows z11 z12 z13 st1 P1 hrs
    obtain ⟨w7, w8, w9, w10, w11, w12, w13, st', e9, P9⟩ := loop2 rows hrs z6 z14 os (.d (.tuple (row.map Tr.D))) (.d (AD T row)) (.d (.bool (isD T row))) (.d (.str x)) y11 y12 y13 st2 P2 fun u hu => ho u (List.mem_cons_of_mem _ hu)
    refine ⟨w7, w8, w9, w10, w11, w12, w13, st', ?_, P9⟩
    rw [List.map_cons, forEv_con (ρ' := LR nms T K rows z6 (.d (.tuple (row.map Tr.D))) z8 z9 z10 z11 z12 z13 z14) rfl]
    have hb : (lLaw2b K hK (run K hK 80)).ev (LR nms T K rows z6 (.d (.tuple (row.map Tr.D))) z8 z9 z10 z11 z12 z13 z14) st = some (.nx, LR nms T K rows z6 (.d (.tuple (row.map Tr.D))) (.d (AD T row)) (.d (.bool (isD T row))) (.d (.str x)) y11 y12 y13 z14, st2) := by
      have hi := isd_and (K := K) (T := T) row (.list (rows.map fun r => .tuple (r.map Tr.D))) (.d (.list (nms.map .str))) z6 z7
      unfold lLaw2b
      refine (seq_nx (ρ' := LR nms T K rows z6 (.d (.tuple (row.map Tr.D))) (.d (AD T row)) z9 z10 z11 z12 z13 z14) (st' := st) ?_).trans ?_
      · generalize run K hK 80 = R at *
        simp -implicitDefEqProofs [e1]
      refine (seq_nx (ρ' := LR nms T K rows z6 (.d (.tuple (row.map Tr.D))) (.d (AD T row)) z9 z10 z11 z12 z13 z14) (st' := st) ?_).trans ?_
      · generalize run K hK 80 = R at *
        simp -implicitDefEqProofs [e2, n1]
      refine (seq_nx (ρ' := LR nms T K rows z6 (.d (.tuple (row.map Tr.D))) (.d (AD T row)) (.d (.bool (isD T row))) z10 z11 z12 z13 z14) (st' := st) ?_).trans ?_
      · generalize run K hK 80 = R at *
        simp -implicitDefEqProofs [e3]
      refine (seq_nx (ρ' := LR nms T K rows z6 (.d (.tuple (row.map Tr.D))) (.d (AD T row)) (.d (.bool (isD T row))) z10 z11 z12 z13 z14) (st' := st) ?_).trans ?_
      · have hi := isd_and (K := K) (T := T) row (.list (rows.map fun r => .tuple (r.map Tr.D))) (.d (.list (nms.map .str))) z6 z7 (.d (.bool (isD T row))) z10 z11 z12 z13 z14 st hr1
        have hib : isiF "bool" (.bool (isD T row)) = true := rfl
        simp -implicitDefEqProofs [-ev_dAnd, hi, n3, hib]
      refine (seq_nx (ρ' := LR nms T K rows z6 (.d (.tuple (row.map Tr.D))) (.d (AD T row)) (.d (.bool (isD T row))) (.d (.str x)) z11 z12 z13 z14) (st' := st1) ?_).trans ?_
      · generalize run K hK 80 = R at *
        have e4' : R 13 [.st, .scr, .d (.int (nms.length : Int))] st = some (.ok (.int d), st1) := e4
        simp -implicitDefEqProofs [e4', a4]
      refine (seq_nx (ρ' := LR nms T K rows z6 (.d (.tuple (row.map Tr.D))) (.d (AD T row)) (.d (.bool (isD T row))) (.d (.str x)) z11 z12 z13 z14) (st' := st1) ?_).trans ?_
      · have e6' : run K hK 80 18 [.d (TDd T), .d (.tuple [.tuple [.str x, .tuple (row.map Tr.D)]])] st1 = some (.ok (AD T [.nd x row]), st1) := by
          rw [List.map_cons, List.map_nil, Tr.D_nd] at e6
          exact e6
        clear e6
        generalize AD T [.nd x row] = X at *
        generalize run K hK 80 = R at *
        simp -implicitDefEqProofs [e5, e6', n2]
      · show (sFor (iL (dVar (CC K) 5)) (gN (CC K) 11) (lLaw1b K hK (run K hK 80))).ev (LR nms T K rows z6 (.d (.tuple (row.map Tr.D))) (.d (AD T row)) (.d (.bool (isD T row))) (.d (.str x)) z11 z12 z13 z14) st1 = _
        generalize run K hK 80 = R at *
        simp -implicitDefEqProofs [e7]
    rw [hb]
    exact e9
end
end Lw

namespace Lw
open PySem PySem.Spec PyProof.Rows L2 Dx Dg De Fv
section
variable {K : PySem.W.Frag} (hK : KF K) (scr : List Int) {nms : List Str} (hn1 : 1 ≤ nms.length) (hn2 : nms.length ≤ 3)
abbrev LQ (nms : List Str) (T : Tb') (K : PySem.W.Frag) (rows : List (List Tr)) (z6 : En) : Rho := [.scr, .st, .d (.list (nms.map .str)), .d (TDd T), .d (MT K T), .own (rows.map fun r => .tuple (r.map Tr.D)), z6, .no, .no, .no, .no, .no, .no, .no, .no, .no]
include hn1 hn2 in
theorem loop3 (T : Tb') : ∀ (xs : List PyData) (rows : List (List Tr)) (z6 : En) (st : Ds), Dr0 scr st → rows.length + xs.length ≤ 1000 → (∀ o, o ∈ rows → Rw' nms o) →
    ∃ rows' z6' st', forEv (gN (CC K) 6) (lLaw3b K hK (run K hK 80)) xs (LQ nms T K rows z6) st = some (.nx, LQ nms T K rows' z6', st') ∧ Dr0 scr st' ∧ (∀ o, o ∈ rows' → Rw' nms o)
  | [], rows, z6, st, h, _, hr => ⟨rows, z6, st, rfl, h, hr⟩
  | x :: xs, rows, z6, st, h, hl, hr => by
    obtain ⟨d, st1, e4, d0, d1, P1⟩ := run_draw hK 79 scr st 5 h (by omega) (by omega)
    obtain ⟨row, st2, e5, l5, g5, P2⟩ := trees_ev hK scr (nms := nms) 80 hn1 hn2 4 (by omega) (by omega) (by omega) (.d (TDd T)) (.d (MT K T)) (.own (rows.map fun r => .tuple (r.map Tr.D))) (.d x) .no .no .no .no .no .no .no .no (rngD 0 d.toNat) st1 P1
    have hll : row.length ≤ 4 := by
      rw [l5]
      unfold rngD
      rw [List.length_map, List.length_range]
      omega
    simp only [List.length_cons] at hl
    obtain ⟨rows', z6', st', e9, P9, g9⟩ := loop3 T xs (rows ++ [row]) (.d x) st2 P2 (by simp; omega) fun o ho => (List.mem_append.mp ho).elim (hr o) fun h => by rw [List.mem_singleton.mp h]; exact ⟨hll, g5⟩
    refine ⟨rows', z6', st', ?_, P9, g9⟩
    rw [forEv_con (ρ' := LQ nms T K rows (.d x)) rfl]
    have hrl : (rngD 0 d.toNat).length ≤ 100000 := by unfold rngD; rw [List.length_map, List.length_range]; omega
    have hb : (lLaw3b K hK (run K hK 80)).ev (LQ nms T K rows (.d x)) st = some (.nx, LQ nms T K (rows ++ [row]) (.d x), st2) := by
      have e4' : run K hK 80 13 [.st, .scr, .d (.int 5)] st = some (.ok (.int d), st1) := e4
      have hr2 : ∀ ρ : Rho, ρ[0]? = some .scr → ρ[1]? = some .st → (iR1 (dLook (dCall (run K hK 80) 13 (aSt 1 (aSt 0 (aD (dInt (CC K) 5) (aNil (CC K)))))))).ev ρ st = some (.ok (rngD 0 d.toNat), st1) := fun ρ h1 h2 => ev_iR1n (n := d.toNat) (by rw [Int.toNat_of_nonneg d0]; generalize run K hK 80 = R at *; simp -implicitDefEqProofs [h1, h2, e4']) (by omega)
      have e5' : lcEv (gN (CC K) 15) (tYes' (CC K)) (dCall (run K hK 80) 14 (aSt 1 (aSt 0 (aD (dVar (CC K) 2) (aD (dInt (CC K) 4) (aNil (CC K))))))) (LQ nms T K rows (.d x)) (rngD 0 d.toNat) st1 = some (row.map Tr.D, st2) := e5
      clear e5 e4
      have hq : LQ nms T K (rows ++ [row]) (.d x) = [.scr, .st, .d (.list (nms.map .str)), .d (TDd T), .d (MT K T), .own ((rows.map fun r => .tuple (r.map Tr.D)) ++ [.tuple (row.map Tr.D)]), .d x, .no, .no, .no, .no, .no, .no, .no, .no, .no] := by
        show [En.scr, .st, .d (.list (nms.map .str)), .d (TDd T), .d (MT K T), .own ((rows ++ [row]).map fun r => .tuple (r.map Tr.D)), .d x, .no, .no, .no, .no, .no, .no, .no, .no, .no] = _
        rw [List.map_append]
        rfl
      have hlr : (rows.map fun r => PyData.tuple (r.map Tr.D)).length ≤ 1000 := by rw [List.length_map]; omega
      rw [hq]
      generalize run K hK 80 = R at *
      generalize hRW : (rows.map fun r => PyData.tuple (r.map Tr.D)) = RW at *
      generalize row.map Tr.D = RD at *
      unfold lLaw3b
      simp -implicitDefEqProofs [-ev_iR1, hr2, e5', hrl]
      exact ⟨by omega, hRW⟩
    rw [hb]
    exact e9
theorem hev : ∀ ns : List Int, ns.length ≤ 63 → ∃ ρ' st', (bLaw K hK (run K hK 80)).ev (.scr :: .st :: List.replicate 14 .no) ⟨ns, [0, 0], [], false, []⟩ = some (.rt (.bool true), ρ', st') := by
  intro ns _
  have P0 : Dr0 ns ⟨ns, [0, 0], [], false, []⟩ := ⟨0, 0, rfl, by omega⟩
  obtain ⟨d1, st1, e1, d10, d11, P1⟩ := run_draw hK 79 ns _ 3 P0 (by omega) (by omega)
  obtain ⟨hn1, hn2⟩ := nms_ok d1.toNat
  have hso := nms_sort (d := d1.toNat) (by omega)
  obtain ⟨T, st2, e2, O, P2⟩ := run_table hK ns 78 (nmsN d1.toNat) hn2 hso st1 P1
  have e3 := run_init hK O 79 st2
  obtain ⟨rows, z6, st3, e4, P3, g4⟩ := loop3 hK ns hn1 hn2 T (rngD 0 3) [] .no st2 P2 (by decide) (fun o ho => by cases ho)
  obtain ⟨z7, z8, z9, z10, z11, z12, z13, st4, e5, P4⟩ := loop2 hK ns hn1 hn2 O rows g4 z6 .no rows .no .no .no .no .no .no .no st3 P3 g4
  have e6 := run_nothing hK O 79 st4
  have e7 := run_lact hK O 79 [] (fun t ht => by cases ht) (fun t ht => by cases ht) (by simp) st4
  have n1 := ne_self (C := CC K) (AD_sh T [])
  obtain ⟨t, st5, e8, s8, o8, P5⟩ := run_tree hK ns (nmsN d1.toNat) hn1 hn2 80 5 st4 (by omega) (by omega) (by omega) P4
  have e9 := run_lstate hK O 80 t st5 o8 (by omega)
  have e10 := run_single hK O 79 t o8 st5
  have e11 := run_lact hK O 79 [t] (fun u hu => by rw [List.mem_singleton.mp hu]; exact o8) (fun u hu => by rw [List.mem_singleton.mp hu]; omega) (by simp) st5
  have n2 := eq_self (C := CC K) (AD_sh T [t])
  have l3' : ∀ a b c : PyData, lstO [.d a, .d b, .d c] ⟨ns, [0, 0], [], false, []⟩ = some (.ok (.list [a, b, c]), ⟨ns, [0, 0], [], false, []⟩) := fun _ _ _ => rfl
  have hcut := nms_cut d10 d11
  refine ⟨LR (nmsN d1.toNat) T K rows z6 z7 z8 z9 z10 z11 z12 z13 (.d t.D), st5, ?_⟩
  unfold bLaw
  refine (seq_nx (ρ' := [.scr, .st, .d (.list ((nmsN d1.toNat).map .str)), .no, .no, .no, .no, .no, .no, .no, .no, .no, .no, .no, .no, .no]) (st' := st1) ?_).trans ?_
  · generalize run K hK 80 = R at *
    have e1' : R 13 [.st, .scr, .d (.int 3)] ⟨ns, [0, 0], [], false, []⟩ = some (.ok (.int d1), st1) := e1
    simp -implicitDefEqProofs [l3', e1', hcut]
  refine (seq_nx (ρ' := [.scr, .st, .d (.list ((nmsN d1.toNat).map .str)), .d (TDd T), .no, .no, .no, .no, .no, .no, .no, .no, .no, .no, .no, .no]) (st' := st2) ?_).trans ?_
  · generalize run K hK 80 = R at *
    have e2' : R 16 [.st, .scr, .d (.list ((nmsN d1.toNat).map .str))] st1 = some (.ok (TDd T), st2) := e2
    simp -implicitDefEqProofs [e2']
  refine (seq_nx (ρ' := [.scr, .st, .d (.list ((nmsN d1.toNat).map .str)), .d (TDd T), .d (MT K T), .no, .no, .no, .no, .no, .no, .no, .no, .no, .no, .no]) (st' := st2) ?_).trans ?_
  · generalize run K hK 80 = R at *
    have e3' : R 8 [.d (.tuple (T.nm.map .str)), .d (.tuple (nsD T.bg)), .d (.tuple (spD T.sp)), .d (.tuple (nsD T.fn)), .d (.tuple (nsD T.ac))] st2 = some (.ok (MT K T), st2) := e3
    have hT : TDd T = .tuple [.tuple (T.nm.map .str), .tuple (nsD T.bg), .tuple (spD T.sp), .tuple (nsD T.fn), .tuple (nsD T.ac)] := rfl
    rw [hT]
    generalize MT K T = M at *
    generalize T.nm.map PyData.str = V1 at *
    generalize nsD T.bg = V2 at *
    generalize spD T.sp = V3 at *
    generalize nsD T.fn = V4 at *
    generalize nsD T.ac = V5 at *
    have a0 : atI [PyData.tuple V1, .tuple V2, .tuple V3, .tuple V4, .tuple V5] 0 = some (.tuple V1) := rfl
    have a1 : atI [PyData.tuple V1, .tuple V2, .tuple V3, .tuple V4, .tuple V5] 1 = some (.tuple V2) := rfl
    have a2 : atI [PyData.tuple V1, .tuple V2, .tuple V3, .tuple V4, .tuple V5] 2 = some (.tuple V3) := rfl
    have a3 : atI [PyData.tuple V1, .tuple V2, .tuple V3, .tuple V4, .tuple V5] 3 = some (.tuple V4) := rfl
    have a4 : atI [PyData.tuple V1, .tuple V2, .tuple V3, .tuple V4, .tuple V5] 4 = some (.tuple V5) := rfl
    simp -implicitDefEqProofs [a0, a1, a2, a3, a4, e3']
  refine (seq_nx (ρ' := LQ (nmsN d1.toNat) T K [] .no) (st' := st2) ?_).trans ?_
  · rfl
  refine (seq_nx (ρ' := LQ (nmsN d1.toNat) T K rows z6) (st' := st3) ?_).trans ?_
  · generalize run K hK 80 = R at *
    have hr : (iR1 (dLook (dInt (CC K) 3))).ev (LQ (nmsN d1.toNat) T K [] .no) st2 = some (.ok (rngD 0 3), st2) := rfl
    rw [es_sFor, hr]
    exact e4
  refine (seq_nx (ρ' := LR (nmsN d1.toNat) T K rows z6 z7 z8 z9 z10 z11 z12 z13 .no) (st' := st4) ?_).trans ?_
  · generalize run K hK 80 = R at *
    show (sFor (iL (dVar (CC K) 5)) (gN (CC K) 7) (lLaw2b K hK R)).ev (LR (nmsN d1.toNat) T K rows z6 .no .no .no .no .no .no .no .no) st3 = _
    simp -implicitDefEqProofs [e5]
  refine (seq_nx (ρ' := LR (nmsN d1.toNat) T K rows z6 z7 z8 z9 z10 z11 z12 z13 .no) (st' := st4) ?_).trans ?_
  · generalize run K hK 80 = R at *
    have e7' : R 18 [.d (TDd T), .d (.tuple [])] st4 = some (.ok (AD T []), st4) := e7
    simp -implicitDefEqProofs [e6, e7', n1]
  refine (seq_nx (ρ' := LR (nmsN d1.toNat) T K rows z6 z7 z8 z9 z10 z11 z12 z13 (.d t.D)) (st' := st5) ?_).trans ?_
  · generalize run K hK 80 = R at *
    have e8' : R 14 [.st, .scr, .d (.list ((nmsN d1.toNat).map .str)), .d (.int 5)] st4 = some (.ok t.D, st5) := e8
    simp -implicitDefEqProofs [e8']
  · generalize run K hK 80 = R at *
    have e11' : R 18 [.d (TDd T), .d (.tuple [t.D])] st5 = some (.ok (AD T [t]), st5) := e11
    simp -implicitDefEqProofs [e9, e10, e11', n2]
end
end Lw

namespace Lw
open PySem PySem.Spec PyProof.Rows L2 Dx Dg De Fv
/-! ### the head -/
def ddNothing : He.DefD := ⟨("nothing", none), "nothing", "nothing", defArgs sNothing, defBody sNothing, defScope sNothing, [], []⟩
def ddSingle : He.DefD := ⟨("single", none), "single", "single", defArgs sSingle, defBody sSingle, defScope sSingle, [], []⟩
def ddBeside : He.DefD := ⟨("beside", none), "beside", "beside", defArgs sBeside, defBody sBeside, defScope sBeside, [], []⟩
def ddAbove : He.DefD := ⟨("above", none), "above", "above", defArgs sAbove, defBody sAbove, defScope sAbove, [], []⟩
def ddActionOf : He.DefD := ⟨("action_of", none), "action_of", "action_of", defArgs sActionOf, defBody sActionOf, defScope sActionOf, [], []⟩
def ddIsDocument : He.DefD := ⟨("is_document", none), "is_document", "is_document", defArgs sIsDocument, defBody sIsDocument, defScope sIsDocument, [], []⟩
def ddFolded : He.DefD := ⟨("folded", none), "folded", "folded", defArgs sFolded, defBody sFolded, defScope sFolded, [], []⟩
def ddStateOf : He.DefD := ⟨("state_of", none), "state_of", "state_of", defArgs sStateOf, defBody sStateOf, defScope sStateOf, [], []⟩
def ddLawDraw : He.DefD := ⟨("_law_draw", none), "_law_draw", "_law_draw", defArgs sLawDraw, defBody sLawDraw, defScope sLawDraw, [], []⟩
def ddLawSomeTree : He.DefD := ⟨("_law_some_tree", none), "_law_some_tree", "_law_some_tree", defArgs sLawSomeTree, defBody sLawSomeTree, defScope sLawSomeTree, [], []⟩
def ddLawSize : He.DefD := ⟨("_law_size", none), "_law_size", "_law_size", defArgs sLawSize, defBody sLawSize, defScope sLawSize, [], []⟩
def ddLawTable : He.DefD := ⟨("_law_table", none), "_law_table", "_law_table", defArgs sLawTable, defBody sLawTable, defScope sLawTable, [], []⟩
def ddLawState : He.DefD := ⟨("_law_state", none), "_law_state", "_law_state", defArgs sLawState, defBody sLawState, defScope sLawState, [], []⟩
def ddLawAction : He.DefD := ⟨("_law_action", none), "_law_action", "_law_action", defArgs sLawAction, defBody sLawAction, defScope sLawAction, [], []⟩
def ddLaw : He.DefD := ⟨("law", none), "law", "law", defArgs sLaw, defBody sLaw, defScope sLaw, [], []⟩
def ddTableInit : He.DefD := ⟨("Table", some "__init__"), "__init__", "Table.__init__", defArgs sTableInit, defBody sTableInit, defScope sTableInit, [], []⟩
def ddTableBegin : He.DefD := ⟨("Table", some "begin"), "begin", "Table.begin", defArgs sTableBegin, defBody sTableBegin, defScope sTableBegin, [], []⟩
def ddTableStep : He.DefD := ⟨("Table", some "step"), "step", "Table.step", defArgs sTableStep, defBody sTableStep, defScope sTableStep, [], []⟩
def ddTableFinish : He.DefD := ⟨("Table", some "finish"), "finish", "Table.finish", defArgs sTableFinish, defBody sTableFinish, defScope sTableFinish, [], []⟩
def ddTableState : He.DefD := ⟨("Table", some "state"), "state", "Table.state", defArgs sTableState, defBody sTableState, defScope sTableState, [], []⟩
def fn : List He.DefD := [ddNothing, ddSingle, ddBeside, ddAbove, ddActionOf, ddIsDocument, ddFolded, ddStateOf, ddLawDraw, ddLawSomeTree, ddLawSize, ddLawTable, ddLawState, ddLawAction, ddLaw, ddTableInit, ddTableBegin, ddTableStep, ddTableFinish, ddTableState]
def fa : List He.Fa := [.glo "nothing", .glo "single", .glo "beside", .glo "above", .glo "action_of", .glo "is_document", .glo "folded", .glo "state_of", .glo "_law_draw", .glo "_law_some_tree", .glo "_law_size", .glo "_law_table", .glo "_law_state", .glo "_law_action", .glo "law", .free "bool", .free "int", .free "isinstance", .free "len", .free "range", .free "sorted", .free "sum", .free "tuple", .glo "Table", .cls "Table", .mkr "Table", .noat "Table" "names", .noat "Table" "begins", .noat "Table" "steps", .noat "Table" "finishes", .noat "Table" "accepts", .meth "Table" "begin", .meth "Table" "step", .meth "Table" "finish", .meth "Table" "state"]
def is : List Hq.IniD := []
def ex (K : PySem.W.Frag) : Bool := Hq.apart K tfs
abbrev Rw : PySem.W.OpenRow := PySem.W.OpenLaw.row PySem.Challenge.rw_treewarrant_k15_actions_of_rows
def file : Str := PySem.Challenge.pw_treewarrant_k15_actions_of_rows.main.file
abbrev hk : PySem.W.Hook := Hq.hookQT 6 fa fn is file ex tfs
def ob (s : PySem.W.SharedT) : Hq.AlQT := Hq.obsQT 6 fa fn is file ex tfs (HandSHeadRun.getT s)
theorem ob_eq (s : PySem.W.SharedT) : ob s = hk.obs s.abs := Hq.obsQT_eq (HandSHeadRun.getT_eq s)
def loose : List Str := ["_wall", "nothing", "single", "beside", "above", "action_of", "is_document", "folded", "state_of", "Table", "_law_draw", "_law_rows", "_law_trees", "_law_some_tree", "_law_size", "_law_places", "_law_at", "_law_table", "_law_state", "_law_reach", "_law_action"]
theorem headrun (w : World) : HandSHeadRun.RunEq Rw (PySem.W.view Rw.prog [25]) hk ob 6000 loose w := by
  intro os
  kernel_rfl
section
variable {P : Program} {w : World} {K : PySem.W.Frag} {h : Heap} {mg : Str → Option Value}
theorem kf (c : Hq.SaysQ fa fn is file ex K) : KF K := by
  have e := c.exq
  unfold ex at e
  exact ⟨(e), (⟨He.cls_ok (c.d.fact 24), fun f hf => (by
    simp only [onTable, List.mem_cons, List.not_mem_nil, or_false] at hf
    rcases hf with rfl | rfl | rfl | rfl | rfl
    · exact He.noat_ok (c.d.fact 26)
    · exact He.noat_ok (c.d.fact 27)
    · exact He.noat_ok (c.d.fact 28)
    · exact He.noat_ok (c.d.fact 29)
    · exact He.noat_ok (c.d.fact 30)), (show onTable.length < 1000 by decide)⟩)⟩
theorem tx (X : K.In h) (G : h.Ns mainGlobals mg) (c : Hq.SaysQ fa fn is file ex K) : Tx K mg :=
  ⟨He.free_ok X G (c.d.fact 15), He.free_ok X G (c.d.fact 16), He.free_ok X G (c.d.fact 17), He.free_ok X G (c.d.fact 18), He.free_ok X G (c.d.fact 19), He.free_ok X G (c.d.fact 20), He.free_ok X G (c.d.fact 21), He.free_ok X G (c.d.fact 22)⟩
theorem fz (X : K.In h) (G : h.Ns mainGlobals mg) (c : Hq.SaysQ fa fn is file ex K) : Fz K mg := by
  obtain ⟨dNothing, FNothing⟩ := c.d.def_ 0 (d := ddNothing) rfl
  obtain ⟨dSingle, FSingle⟩ := c.d.def_ 1 (d := ddSingle) rfl
  obtain ⟨dBeside, FBeside⟩ := c.d.def_ 2 (d := ddBeside) rfl
  obtain ⟨dAbove, FAbove⟩ := c.d.def_ 3 (d := ddAbove) rfl
  obtain ⟨dActionOf, FActionOf⟩ := c.d.def_ 4 (d := ddActionOf) rfl
  obtain ⟨dIsDocument, FIsDocument⟩ := c.d.def_ 5 (d := ddIsDocument) rfl
  obtain ⟨dFolded, FFolded⟩ := c.d.def_ 6 (d := ddFolded) rfl
  obtain ⟨dStateOf, FStateOf⟩ := c.d.def_ 7 (d := ddStateOf) rfl
  obtain ⟨dLawDraw, FLawDraw⟩ := c.d.def_ 8 (d := ddLawDraw) rfl
  obtain ⟨dLawSomeTree, FLawSomeTree⟩ := c.d.def_ 9 (d := ddLawSomeTree) rfl
  obtain ⟨dLawSize, FLawSize⟩ := c.d.def_ 10 (d := ddLawSize) rfl
  obtain ⟨dLawTable, FLawTable⟩ := c.d.def_ 11 (d := ddLawTable) rfl
  obtain ⟨dLawState, FLawState⟩ := c.d.def_ 12 (d := ddLawState) rfl
  obtain ⟨dLawAction, FLawAction⟩ := c.d.def_ 13 (d := ddLawAction) rfl
  obtain ⟨dTableInit, FTableInit⟩ := c.d.def_ 15 (d := ddTableInit) rfl
  obtain ⟨dTableBegin, FTableBegin⟩ := c.d.def_ 16 (d := ddTableBegin) rfl
  obtain ⟨dTableStep, FTableStep⟩ := c.d.def_ 17 (d := ddTableStep) rfl
  obtain ⟨dTableFinish, FTableFinish⟩ := c.d.def_ 18 (d := ddTableFinish) rfl
  obtain ⟨dTableState, FTableState⟩ := c.d.def_ 19 (d := ddTableState) rfl
  exact ⟨⟨_, _, FNothing, He.glo_ok X G (c.d.fact 0)⟩, ⟨_, _, FSingle, He.glo_ok X G (c.d.fact 1)⟩, ⟨_, _, FBeside, He.glo_ok X G (c.d.fact 2)⟩, ⟨_, _, FAbove, He.glo_ok X G (c.d.fact 3)⟩, ⟨_, _, FActionOf, He.glo_ok X G (c.d.fact 4)⟩, ⟨_, _, FIsDocument, He.glo_ok X G (c.d.fact 5)⟩, ⟨_, _, FFolded, He.glo_ok X G (c.d.fact 6)⟩, ⟨_, FStateOf, He.glo_ok X G (c.d.fact 7)⟩, ⟨_, _, FLawDraw, He.glo_ok X G (c.d.fact 8)⟩, ⟨_, _, FLawSomeTree, He.glo_ok X G (c.d.fact 9)⟩, ⟨_, _, FLawSize, He.glo_ok X G (c.d.fact 10)⟩, ⟨_, _, FLawTable, He.glo_ok X G (c.d.fact 11)⟩, ⟨_, _, FLawState, He.glo_ok X G (c.d.fact 12)⟩, ⟨_, _, FLawAction, He.glo_ok X G (c.d.fact 13)⟩, ⟨_, _, FTableInit, He.mkr_ok (c.d.fact 25), He.glo_ok X G (c.d.fact 23)⟩, ⟨_, _, FTableBegin, He.meth_ok (c.d.fact 31)⟩, ⟨_, _, FTableStep, He.meth_ok (c.d.fact 32)⟩, ⟨_, _, FTableFinish, He.meth_ok (c.d.fact 33)⟩, ⟨_, _, FTableState, He.meth_ok (c.d.fact 34)⟩⟩
theorem xs (hP : P.main.file = file) (hS : (P.main.scope.names.lookup ("super" : Str)).isSome = false) (X : K.In h) (G : h.Ns mainGlobals mg) {base : Heap} (c : Hq.SaysQ fa fn is file ex K) : Xs P w K mg base := by
  exact ⟨trivial⟩
theorem facts {f : Addr} (hP : P.main.file = file) (hS : (P.main.scope.names.lookup ("super" : Str)).isSome = false) (X : K.In h) (G : h.Ns mainGlobals mg) (hfa : mg ("law" : Str) = some (.ref f)) (c : Hq.SaysQ fa fn is file ex K) :
    ∃ fd : FuncData, (∀ (s : Shared) (v : Value), BindsTo s fd ⟨[v], []⟩ [("script", v)]) ∧ ∀ base : Heap, K.In base → base.Ns mainGlobals mg → (∀ p ∈ tfs.map (He.cT K), LamX.TabB base mg p.1 p.2) → FnOk P w K mg base CX0 166 f fd ["script"] (spLawT K (tabs K)) := by
  obtain ⟨fd, F⟩ := c.d.def_ 14 (d := ddLaw) rfl
  have e := hfa.symm.trans (He.glo_ok X G (c.d.fact 14 (f := .glo "law") rfl))
  cases e
  have b := FunD.bindsA (ps := ["script"]) F fun _ _ _ _ _ _ us hl => match us, hl with | [_], _ => rfl
  exact ⟨fd, fun s v => b s [v] rfl, fun base _ _ ht => okLaw (R := run K (kf c) 80) (kf c) (tx X G c) (xs hP hS X G c) (by omega) (cs_all (kf c) (tx X G c) (xs hP hS X G c) ⟨ht _ (List.mem_map.mpr ⟨("state_of", none), by simp [tfs], rfl⟩)⟩ (fz X G c) 80) F (hev (kf c))⟩
end
end Lw
open PySem PySem.W PySem.Calls PyProof.Rows
theorem PySem.Challenge.cw_treewarrant_k15_actions_of_rows_holds : PySem.Challenge.rw_treewarrant_k15_actions_of_rows.Holds := by
  w_on; o_law
  refine HandSHeadRun.head_any (r := OpenLaw.row PySem.Challenge.rw_treewarrant_k15_actions_of_rows) (q := view (OpenLaw.row PySem.Challenge.rw_treewarrant_k15_actions_of_rows).prog [25]) (H := Lw.hk) (ob := Lw.ob) (M := 6000) (loose := Lw.loose) (d := HandSHeadRun.topDef (OpenLaw.row PySem.Challenge.rw_treewarrant_k15_actions_of_rows).prog 25) (kwd := []) Lw.ob_eq
    (by kernel_rfl) (fun s => by kernel_rfl) Lw.headrun (by kernel_rfl) (by kernel_rfl) (by kernel_rfl) (by rfl) (by first | assumption | decide +kernel) (by decide +kernel) ⟨rfl, rfl, rfl, rfl, rfl, by decide +kernel⟩ ?hw ?hc
  case hw => w_witness2
  case hc =>
    refine LamX.walk_ofTsE (l := PySem.Challenge.rw_treewarrant_k15_actions_of_rows) (n := 63) (k := 166) (x := "script") (CX := fun _ => L2.CX0) rfl (by decide) (by kernel_rfl) ⟨rfl, by decide, by decide⟩ ?F (fun _ _ _ _ _ z => z)
    intro w mg fa h Y G hmg0
    obtain ⟨K, KX, c⟩ := Y
    have hmg : mg ("law" : PySem.Str) = some (.ref fa) := by
      have e : (HandSHeadRun.topDef (OpenLaw.row PySem.Challenge.rw_treewarrant_k15_actions_of_rows).prog 25).name = ("law" : PySem.Str) := by kernel_rfl
      rw [← e]
      exact hmg0
    obtain ⟨fd, hb, hF⟩ := Lw.facts (P := (PySem.Challenge.rw_treewarrant_k15_actions_of_rows).prog) (w := w) (by kernel_rfl) (by kernel_rfl) KX G hmg c.q
    refine ⟨K, KX, fd, Lw.tfs.map (He.cT K), De.spLawT K (Lw.tabs K), ?_, ?_, ?_, hb, fun H a ns hl _ hH hS => ⟨a, ns, rfl, hl, hS, ?_, fun _ => rfl⟩, fun base h1 h2 h3 => hF base h1 h2 h3⟩
    · intro p hp
      obtain ⟨d, hd, rfl⟩ := List.mem_map.mp hp
      exact c.emp d hd
    · intro p hp
      obtain ⟨d, hd, rfl⟩ := List.mem_map.mp hp
      exact c.out d hd
    · intro p hp
      obtain ⟨d, hd, rfl⟩ := List.mem_map.mp hp
      exact PySem.W.codeHd_of_K KX (c.hd d hd)
    · intro p hp
      obtain ⟨d, hd, rfl⟩ := List.mem_map.mp hp
      exact NdefX.TabN.nil (hH _ (List.mem_map.mpr ⟨d, hd, rfl⟩))
