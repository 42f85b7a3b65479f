import PyProof.Rows.All
import Wide.All
import OpenK.AllK
import Wide.FinOn
import KE.KStateDown
import KE.KExcSuper
import HandS.ForMost
import HandS.ForExc
import HandS.ExcInit
import HandS.ExcField
import HandS.ExcIs
import HandS.Walk
import HandS.Style
import HandS.Flow
import HandS.IsInst
import HandS.StrMore
import HandS.Conv
import HandS.RaiseOp
import HandS.Steps
import HandS.Defaults
import HandS.HeadHook1
import HandS.HeadHook2
import HandS.Wide
import KE.GoesMore
import HandS.GenList
import HandS.GenYield
import HandS.Head2
import HandS.HeadEnd
import PyProof.StrLawsRepr
import PySem.Challenge.RW_stillgrows_k00_words_and_their_refusals
set_option Elab.async false
set_option linter.all false
set_option maxRecDepth 100000
set_option maxHeartbeats 0
namespace Sg
open PySem PySem.W PySem.Spec PySem.Calls PyProof.Rows L2
/-! the error classes: GrowsError.__init__(self, value) as the text has it -/
abbrev giScope : Scope := { kind := .function, names := [("self", .local), ("value", .local), ("__class__", .free), ("super", .globalImplicit), ("repr", .globalImplicit)], isGenerator := false, isCoroutine := false }
structure GiPos where
  (p1 p2 p3 p4 p5 p6 p7 p8 p9 p10 p11 p12 a1 a2 : Pos)
abbrev giBody (q : GiPos) : List Stmt :=
  [.Assign [.Attribute (.Name "self" q.p1) "value" q.p2] (.Name "value" q.p3) q.p4,
   .Expr (.Call (.Attribute (.Call (.Name "super" q.p5) [] [] q.p6) "__init__" q.p7) [.Call (.Name "repr" q.p8) [.Name "value" q.p9] [] q.p10] [] q.p11) q.p12]
abbrev giArgs (q : GiPos) : Arguments := { posonlyargs := [], args := [{ arg := "self", annotation := none, pos := q.a1 }, { arg := "value", annotation := none, pos := q.a2 }], vararg := none, kwonlyargs := [], kw_defaults := [], kwarg := none, defaults := [] }
abbrev giFn (q : GiPos) (kV doc pm : Value) (an : Option Addr) (cda : Addr) (ct : Value) (cc : Addr) : FuncData :=
  ksFn "__init__" "GrowsError.__init__" (giArgs q) (giBody q) giScope .none kV doc pm an (.ref cda) ct cc
/-- what the written part says of the base class's __init__, for the class at C -/
structure GiC (prog : Program) (K : Frag) (C : Addr) : Prop where
  o : OexC K C
  ex : ∃ (fI D cda cc : Addr) (q : GiPos) (oc kV doc pm ct ccl cl : Value) (od an cdd cld : Option Addr) (osl ccs csl : Array (Option Value)) (vs : Array Value) (file : Str) (tf : Tok) (cdD : ClassData),
    findIn K (.ref C) "__init__" = some (some (.ref fI)) ∧ typeIn K (.ref fI) = some (.type "function") ∧
    K.lookup fI = some ⟨oc, od, .func (giFn q kV doc pm an cda ct cc), osl⟩ ∧ codeIn K (.ref cda) "GrowsError.__init__" = true ∧
    K.lookup cda = some ⟨ccl, cdd, .fields vs, ccs⟩ ∧ vs[2]? = some (.str file tf) ∧ ((prog.main.file : Str) == file) = true ∧
    K.lookup cc = some ⟨cl, cld, .cell (some (.ref D)), csl⟩ ∧ clsIn K D = some cdD ∧ mroIn K C (.ref D) = some true ∧
    ks_superIn K C D "__init__" = some (some (.builtin "ValueError.__init__")) ∧ q.p7.endLine = q.p11.line
  nv : findIn K (.ref C) "value" = some none
  ve : subIn K (.ref C) (.type "ValueError") = some true
  ot : nsIn K cStatics "thirdparty.any" = some none
  ns : nsIn K mainGlobals "super" = some none
  nr : nsIn K mainGlobals "repr" = some none
  tp : (prog.main.scope.names.lookup ("super" : Str)).isSome = false
theorem mcall_eq {o e : Expr} {name : Str} {apos pos : Pos} {env : Env} (h : apos.endLine = pos.line) (hs : starEach [e] env = (false, eval e env) :: starEach [] env) : eval (.Call (.Attribute o name apos) [e] [] pos) env = (do
      let ov ← attributeBase o name env (eval o env)
      standAt apos.atName
      let (f, first) ← holding [ov] (getMethod ov name (do return (← importBound o env).getD true))
      callWith pos f first (backTo pos (starEach [e] env)) []) := by
  show (do
      let ov ← attributeBase o name env (eval o env)
      standAt apos.atName
      methodCall o name apos pos env ov 1 (backTo pos (starEach [e] env)) []) = _
  rw [hs]
  have hm : ∀ few, methodCallPos few o env apos pos = pure pos := fun few => by
    unfold methodCallPos
    rw [if_pos (by rw [h]; simp)]
  unfold methodCall
  simp only [hm, pure_bind]
  rfl
section
variable {prog : Program} {w : World} {A : Around} {K : Frag} {mg : Str → Option Value} {base : Heap}
/-- repr(u) ends with a text, and leaves what is there -/
def ReprGo (prog : Program) (w : World) (base : Heap) (u : Value) (hold : Heap → Prop) : Prop := ∀ (A : Around) (s : Shared) (Q : Value → Shared → Prop) (E : Value → Shared → Prop), A.units + 8 < cLine → hold s.heap →
  (∀ h' x t tk, (∀ b o, s.heap.get? b = some o → h'.get? b = some o) → Q (.str x t) { s with heap := h', toks := tk }) → wpAny (model prog w) A (call (.builtin "repr") [u]) Q E s
theorem ginit {C e : Addr} {u : Value} {t0 : Addr} {R : Result → Shared → Prop} {hp : Heap} {g : Array GenState} {d : Drawn} {t : Nat} {os : OsState} {fI : Addr} {hold : Heap → Prop}
    (T : GiC prog K C) (hfI : findIn K (.ref C) "__init__" = some (some (.ref fI)))
    (M : Mod K mg base) (hb : ∀ b o, base.get? b = some o → hp.get? b = some o) (hbe : base.get? e = none) (hr : A.depth < recursionLimit)
    (he : hp.get? e = some (HandSPX.excO C t0)) (hu : A.units + 32 < cLine)
    (hh : ∀ h', (∀ b o, b ≠ e → hp.get? b = some o → h'.get? b = some o) → hold h') (rg : ReprGo prog w base u hold)
    (hq : ∀ h' t1 dx tk, (∀ b o, b ≠ e → hp.get? b = some o → h'.get? b = some o) → hp.objs.size ≤ dx → dx ≠ e →
      h'.get? e = some { cls := .ref C, dict := some dx, data := .fields #[.ref t1, .none, .none, .none, .bool false, .none] } →
      h'.Ns1 dx (fun y => if y = "value" then some u else none) → R (.ok (.ret .none)) ⟨h', g, d, tk, os⟩) :
    codeAny (model prog w) A (.call (.ref fI) ⟨[.ref e, u], []⟩) R ⟨hp, g, d, t, os⟩ := by
  obtain ⟨fI', D, cda, cc, q, oc, kV, doc, pm, ct, ccl, cl, od, an, cdd, cld, osl, ccs, csl, vs, file, tf, cdD, e1, e2, e3, e4, e5, e6, e7, e8, e9, e10, e11, e12⟩ := T.ex
  have ef : fI = fI' := by
    have z := hfI.symm.trans e1
    exact Value.ref.inj (Option.some.inj (Option.some.inj z))
  subst ef
  obtain ⟨nm, qn, N, bs, bm, sn, sub, ab, col, dd, k0, k1, k2, k3, k5, hC, hbm⟩ := T.o.cls
  have X : K.In hp := M.kin.keeps hb
  have lim : hp.NoLimit := M.nolimit.keeps hb
  refine ks_codeAny_call_defAt (fd := giFn q kV doc pm an cda ct cc) (body := giBody q) (binds := [("self", .ref e), ("value", u)]) hr (X _ _ e3) rfl lim (codeRec_of X e4) rfl (BindsTo.of_eq rfl) (show ∀ x ∈ giScope.names, x.2 ≠ .cell by decide)
    (fun x hx => by
      rcases List.mem_cons.mp hx with rfl | hx
      · rfl
      · rcases List.mem_cons.mp hx with rfl | hx
        · rfl
        · cases hx) (fun h₀ hns hk₀ => ?_)
  have X0 : K.In h₀ := X.keeps hk₀
  have he0 := hk₀ _ _ he
  have hcl : clsIn K C = some { name := nm, bases := bs, mro := .ref C :: bm, ns := N, qualname := qn, hasDict := true, slotNames := sn, subclasses := sub, abstract := ab, collection := col, hasDel := false } := by unfold clsIn; rw [hC] <;> rfl
  have heL : hp.objs.size ≠ e := Nat.ne_of_gt (Heap.lt_size he)
  -- self.value = value
  refine ks_wpAt_execs_cons (ks_wpAt_Assign_Attr (wpAt_of_wpAny ?_) (by rfl))
  refine wpAny_Name (wpAny_loadName_local rfl rfl hns rfl ?_) (by decide)
  refine wpAny_Name (wpAny_loadName_local rfl rfl hns rfl ?_) (by decide)
  refine set_plain X0 (ox := HandSPX.excO C t0) (od := none) ⟨he0, rfl, rfl, trivial⟩ T.o.sa ?_
  refine HandSPX.exc_osa X0 he0 hcl (show HandSPX.refsVE (.ref C :: bm) = true from hbm) rfl T.nv (fun h1 tk1 dx k1' hdx hdxe hx1 hn1 => ?_)
  have bk1 : ∀ b o, base.get? b = some o → h1.get? b = some o := fun b o z => k1' _ _ (fun y => by
    rw [y, hbe] at z
    cases z) (hk₀ _ _ (hb _ _ z))
  have X1 : K.In h1 := M.kin.keeps bk1
  have hns1 : h1.Ns hp.objs.size (fun x => ([("self", .ref e), ("value", u)] : List (Str × Value)).reverse.lookup x) := by
    obtain ⟨oL, es, ep, hL, r⟩ := hns
    exact ⟨oL, es, ep, k1' _ _ heL hL, r⟩
  have hD1 : ∃ oD, h1.get? D = some oD ∧ oD.data = .cls cdD := by
    unfold clsIn at e9
    split at e9
    · rename_i c d cd' sl ho
      cases e9
      exact ⟨_, X1 _ _ ho, rfl⟩
    · cases e9
  obtain ⟨oD, hD1, hD2⟩ := hD1
  obtain ⟨mb, hB1, hB2⟩ := M.blt
  -- super().__init__(repr(value))
  refine ks_wpAt_execs_cons (ks_wpAt_Expr_any ?_ (by rfl) (by rfl))
  refine ks_wpAt_MethodCall (name := "__init__") ?_ (mcall_eq e12 rfl)
  refine ks_wpAt_super_base (env := callEnv (giFn q kV doc pm an cda ct cc) hp.objs.size fI) (f := fI) (cc := cda) (by rfl) (by rfl) (by decide) rfl (X1 _ _ e3) rfl (ar := { arg := "self", annotation := none, pos := q.a1 }) rfl rfl (X1 _ _ e5) rfl e6 e7 T.tp ?_
  refine ks_loadName_global rfl rfl (loadGlobal_builtin (M.glob.keeps bk1) (mg_none_of M.kin M.glob T.ns) (hB1.keeps bk1) ((hB2 "super" (by decide)).trans (show bootBuiltins "super" = some (.type "super") by decide +kernel)) ⟨rfl, ?_⟩)
  refine wpAny_loadName_free rfl rfl rfl ⟨_, X1 _ _ e8, rfl⟩ ?_
  refine wpAny_loadName_local rfl rfl hns1 rfl ?_
  refine ks_wpAny_isType_cls hD1 hD2 ⟨rfl, ?_⟩
  refine ks_wpAny_call_super hD1 hD2 hx1 rfl (fun c z => by cases z) (looks_mroIn X1 e10) (fun h2 hso k2 => ?_)
  have X2 : K.In h2 := X1.keeps k2
  have bk2 : ∀ b o, base.get? b = some o → h2.get? b = some o := fun b o z => k2 _ _ (bk1 _ _ z)
  have hx2 := k2 _ _ hx1
  have I2 : InstAt h2 e { cls := .ref C, dict := some dx, data := .fields #[.ref t0, .none, .none, .none, .bool false, .none] } C (h2.get? dx) := by
    obtain ⟨od', _, _, ho', _⟩ := hn1
    refine ⟨hx2, rfl, rfl, ?_⟩
    rw [k2 _ _ ho']
    exact k2 _ _ ho'
  have hI : Looks (model prog w) h2 (isInstance (.ref e) (.type "ValueError")) true := I2.type.andThen (looks_subIn X2 T.ve)
  have hmr : Looks (model prog w) h2 (mroOf (.ref C)) (.ref C :: bm) := fun A Q E s k q => wpAny_bind ((looks_clsIn X2 hcl) A _ E s k (wpAny_pure q))
  have e11' : alongIn K "__init__" (((Value.ref C :: bm).dropWhile (· != .ref D)).drop 1) = some (some (.builtin "ValueError.__init__")) := by
    unfold ks_superIn at e11
    rw [hcl] at e11
    exact e11
  refine kxs_getMethod kxs_ValueError hso (looks_opaque X2 T.ot) hmr rfl X2 e11' hI (ks_ne X2 I2 hcl) (by decide) ?_
  have k3 : ∀ b o, h2.get? b = some o → (h2.push (kxs_mw "ValueError.__init__" e)).get? b = some o := fun b o z => Heap.get?_push_of_some _ z
  have hu3 : (h2.push (kxs_mw "ValueError.__init__" e)).get? h2.objs.size = some (kxs_mw "ValueError.__init__" e) := Heap.get?_push_at rfl rfl
  refine kxs_callWith (i := "ValueError.__init__") (x := e) (u := h2.objs.size) (by rfl) ?_
  refine evalArgs_plain ?_
  refine Calls.spliced_cons ?_
  refine wpAny_Call_Name_kw (Calls.Name_function_global rfl rfl (Calls.loadGlobal_builtin (M.glob.keeps fun b o z => k3 _ _ (bk2 _ _ z)) (mg_none_of M.kin M.glob T.nr) (hB1.keeps fun b o z => k3 _ _ (bk2 _ _ z)) ((hB2 "repr" (by decide)).trans (show bootBuiltins "repr" = some (.builtin "repr") by decide +kernel)) ?_) (by decide))
  have hns3 : (h2.push (kxs_mw "ValueError.__init__" e)).Ns hp.objs.size (fun x => ([("self", .ref e), ("value", u)] : List (Str × Value)).reverse.lookup x) := by
    obtain ⟨oL, es, ep, hL, r⟩ := hns1
    exact ⟨oL, es, ep, k3 _ _ (k2 _ _ hL), r⟩
  refine PyProof.Rows.callWith_builtin1 (Calls.spliced_cons (wpAny_Name (wpAny_loadName_local rfl rfl hns3 rfl (Calls.spliced_nil ?_)) (by decide))) rfl rfl
  have kk : ∀ b o, b ≠ e → hp.get? b = some o → (h2.push (kxs_mw "ValueError.__init__" e)).get? b = some o := fun b o hb z => k3 _ _ (k2 _ _ (k1' _ _ hb (hk₀ _ _ z)))
  refine rg _ _ _ _ ?_ (hh _ kk) (fun h4 x4 t4 tk4 k4 => ?_)
  · show A.units + 3 + 8 < cLine
    omega
  refine Calls.spliced_nil ⟨k4 _ _ hu3, ?_⟩
  have hx4 := k4 _ _ (k3 _ _ hx2)
  have X4 : K.In h4 := X2.keeps fun b o z => k4 _ _ (k3 _ _ z)
  show wpAny (model prog w) _ (call (.ref h2.objs.size) [.str x4 t4]) _ _ _
  refine wpAny_call (codeAny_of_tree ?_)
  show wpAny _ _ (callAny (.ref h2.objs.size) ⟨[.str x4 t4], []⟩) _ _ _
  simp only [callAny]
  refine wpAny_bind (wpAny_load (k4 _ _ hu3) ?_)
  refine KFB.if_so (by rfl) ?_
  refine wpAny_bind (check_bound_init F.excBase_ValueError.toExcCallFacts (X4 _ _ hC) hx4 rfl ?_)
  refine wpAny_bind (wpAny_pure (wpAny_pure ?_))
  refine ⟨plainId_quiet F.excBase_ValueError.init.plain _, codeAny_builtin F.excBase_ValueError.initEntry ?_⟩
  refine exc_init_tree (cls := .ref C) (t0 := t0) (dv := some dx) (c2 := .none) (c3 := .none) (b4 := .bool false) hx4 (by show 1 ≤ sizeLine; decide) fun h5 k5' hx5 _ => ?_
  have kf : ∀ b o, b ≠ e → hp.get? b = some o → h5.get? b = some o := fun b o hb z => k5' _ _ hb (k4 _ _ (kk _ _ hb z))
  have hn5 : h5.Ns1 dx (fun y => if y = "value" then some u else none) := by
    obtain ⟨o', es', ep', ho', r'⟩ := hn1
    exact ⟨o', es', ep', k5' _ _ hdxe (k4 _ _ (k3 _ _ (k2 _ _ ho'))), r'⟩
  have hdx' : hp.objs.size ≤ dx := by
    refine Nat.le_trans ?_ hdx
    obtain ⟨oL, es, ep, hL, r⟩ := hns
    exact Nat.le_of_lt (Heap.lt_size hL)
  exact wpAt_of_wpAny (wpAny_execs_nil (hq h5 _ dx _ kf hdx' hdxe hx5 hn5))
end
section
variable {X : Cx} {x : Str} {C : Addr} {e : Expr} {te : TE} {p pos : Pos} {k : Nat}
/-- a value whose repr is told: a text, an int -/
def ReprV (v : V) : Prop := (∃ z : Str, v = .str z ∧ (reprText z).length ≤ sizeLine) ∨ ∃ i : Int, v = .int i ∧ i.natAbs.log2 < 1920
theorem ReprV.go {prog : Program} {w : World} {base : Heap} {v : V} {u : Value} (h : ReprV v) (r : RelV v u) : ReprGo prog w base u (fun _ => True) := by
  intro A s Q E hu _ q
  rcases h with ⟨z, rfl, hz⟩ | ⟨i, rfl, hi⟩
  · obtain ⟨t, rfl⟩ := r
    exact PySem.P.repr_of_str (q s.heap _ _ _ fun _ _ z => z) hz
  · obtain ⟨t, rfl⟩ := r
    exact PySem.P.repr_of_int hi (q s.heap _ _ _ fun _ _ z => z)
def tGrows (C : Addr) (te : TE) : L2.St → Hp → XK → Prop := fun σ H Q => te σ H fun v H1 => ReprV v ∧ ∀ d, H1 d = none → Q (.ref C) (some d) (upd H1 d (.xd [("value", v)]))
theorem pmk_grows (T : GiC X.prog X.K C) (hr : Room k X.A) (hg : Gl X x) (hm : X.mg x = some (.ref C)) (he : PE X e te) (hdb : (x == ("__debug__" : Str)) = false := by decide)
    (hs : starEach [e] X.env = (false, eval e X.env) :: starEach [] X.env := by rfl) : PMk X (.Call (.Name x p) [e] [] pos) (tGrows C te) := by
  intro pins s σ H Q I h
  obtain ⟨nm, q, N, bs, bm, sn, sub, ab, col, dd, k0, k1, k2, k3, k5, hC, hbm⟩ := T.o.cls
  obtain ⟨fI, D, cda, cc, gq, oc, kV, doc, pm, ct, ccl, cl, od, an, cdd, cld, osl, ccs, csl, vs, file, tf, cdD, iC, tI, _⟩ := T.ex
  refine wpAny_Call_Name_kw (ld_glob I hg hm ?_ hdb)
  refine PySem.W.callWith_K (h₀ := X.base) I.ok.mod.kin T.o.kC ?_ hs (by rfl)
  rw [hs]
  show wpAny _ _ (spliced ((false, eval e X.env) :: backTo pos (starEach [] X.env))) _ _ s
  refine Calls.spliced_cons (thn (he.run pins s σ H _ I h) fun u s1 ⟨v, H1, I1, r1, hv, q1⟩ => ?_)
  refine Calls.spliced_nil ⟨I1.kIn, ?_⟩
  show wpAny _ _ (call (.ref C) [u]) _ _ _
  obtain ⟨hp, g, dr, tk, os⟩ := s1
  have hsz : hp.objs.size ≤ hp.objs.size + 1 := Nat.le_succ _
  have hn : H1 (hp.objs.size + 1) = none := I1.hok.fresh hsz
  have kk : ∀ b o, hp.get? b = some o → ((hp.push (PySem.W.kdv_tup [u])).push (PySem.HandSPX.excO C hp.objs.size)).get? b = some o := fun b o e => Heap.get?_push_of_some _ (Heap.get?_push_of_some _ e)
  have hget : ((hp.push (PySem.W.kdv_tup [u])).push (PySem.HandSPX.excO C hp.objs.size)).get? (hp.objs.size + 1) = some (PySem.HandSPX.excO C hp.objs.size) := by heap_get
  have fr : ∀ b o, hp.get? b = some o → b ≠ hp.objs.size + 1 := fun b o z => Nat.ne_of_lt (Nat.lt_of_lt_of_le (Heap.lt_size z) hsz)
  have hbe : X.base.get? (hp.objs.size + 1) = none := by
    cases z : X.base.get? (hp.objs.size + 1) with
    | none => rfl
    | some o => exact absurd rfl (fr _ _ (I1.bk _ _ z))
  refine wpAny_call (PySem.HandSPX.call_own F.excBase_ValueError (fun Y => PySem.HandSPX.refsVE_contains Y bm hbm) (I1.kIn _ _ hC) (PySem.W.looks_findIn I1.kIn iC) (fun self => PySem.W.bind_fn I1.kIn self tI) (by show 1 ≤ sizeLine; decide) ?_)
  refine ginit T iC I1.mod (fun b o z => kk _ _ (I1.bk _ _ z)) hbe ?_ hget ?_ (hold := fun _ => True) (fun _ _ => trivial) (hv.go r1) (fun h' t1 dx tk' kf hdx hdxe hx hns => ?_)
  · have := hr.dp
    rw [make_depth]
    omega
  · have := hr.un
    rw [make_units]
    omega
  refine ⟨rfl, ?_⟩
  obtain ⟨G, g1, g2⟩ := restrict h' fun b => decide (b ≠ hp.objs.size + 1)
  have gk : ∀ b, b ≠ hp.objs.size + 1 → G.get? b = h'.get? b := fun b hb => g1 b (decide_eq_true hb)
  have ge : G.get? (hp.objs.size + 1) = none := g2 _ (by simp)
  have hdx0 : hp.objs.size ≤ dx := Nat.le_trans (show hp.objs.size ≤ ((hp.push (PySem.W.kdv_tup [u])).push (PySem.HandSPX.excO C hp.objs.size)).objs.size from Nat.le_of_lt (Nat.lt_of_lt_of_le (Nat.lt_succ_self _) (Nat.le_of_lt (Heap.lt_size hget)))) hdx
  have kG : ∀ b o, hp.get? b = some o → G.get? b = some o := fun b o z => by
    rw [gk b (fr b o z)]
    exact kf _ _ (fr b o z) (kk _ _ z)
  have new : ObjOk X.prog X.w (upd H1 dx (.xd [("value", v)])) G dx (.xd [("value", v)]) := by
    refine ⟨_, hns.at fun o y => (gk dx hdxe).trans y, fun f => ?_⟩
    exact relO_put (fs := []) (mA := fun _ => none) r1 (fun g => True.intro) f
  have J := I1.laid (t' := tk') (h' := G) (a := dx) (o := .xd [("value", v)]) kG hdx0 new
  refine ⟨_, _, _, ⟨G, g, dr, tk', os⟩, _, .ref C, some dx, rfl, J, fun b o z => ?_, ge, hx, ⟨rfl, rfl⟩, rfl, rfl, ?_, rfl, I1.bare, raises_own T.o.exC T.o.tyC, q1 dx (I1.hok.fresh hdx0)⟩
  · by_cases hb : b = hp.objs.size + 1
    · rw [hb, ge] at z
      cases z
    · exact (gk b hb).symm.trans z
  · rw [upd_ne (Ne.symm hdxe)]
    exact hn
end
end Sg
/-! isinstance of a caught error that has its own dict -/
namespace Sg
open PySem PySem.W PySem.Spec PySem.Calls PyProof.Rows L2
theorem exc_cls {prog : Program} {w : World} {A : Around} {E : Value → Shared → Prop} {s : Shared} {K : Frag} {x D : Addr} {ox : Obj} {od : Option Obj} (C : ExcC K D) {Q : Option Value → Shared → Prop}
    (X : K.In s.heap) (I : InstAt s.heap x ox D od) (h : Q (some (.ref D)) { s with toks := s.toks + 1 }) : wpAny (model prog w) A (getAttr? (.ref x) "__class__") Q E s := by
  obtain ⟨hga, hgt, hsub, hdct, ha, hn, htk, hm⟩ := C
  have found : findObj K D od "__class__" = some (.bind (.builtin "getset_descriptor.__get__") (.builtin "object.__class__")) := by
    obtain ⟨cd, hc, _⟩ := any_some hdct
    unfold findObj
    simp [hc, ha, hn, htk]
  obtain ⟨hp, g, d, t, os⟩ := s
  have isx : Looks (model prog w) hp (isInstance (.ref x) (.type "BaseException")) true := (I.type (M := model prog w)).andThen (looks_subIn X hsub)
  have other : (Value.builtin "BaseException.__getattribute__" == Value.builtin "object.__getattribute__") = false := by decide +kernel
  unfold getAttr? getAttrBy? getAttrBy
  refine wpAny_bind (wpAny_mkText (wpAny_bind (wpAny_attempt (wpAny_holding (wpAny_bind (I.type.at (wpAny_bind ((looks_findIn X hga).at ?_))))))))
  show wpAny _ _ (if (onTheHeap (Value.ref D) && _) = true then _ else _) _ _ _
  rw [show (onTheHeap (Value.ref D) && Value.builtin "BaseException.__getattribute__" == Value.builtin "object.__getattribute__") = false by rw [other]; rfl, if_neg Bool.false_ne_true]
  unfold getAttrByItsOwn hookBefore
  refine wpAny_bind ?_
  rw [if_pos (show onTheHeap (Value.ref D) = true from rfl)]
  refine (looks_findIn X hgt).at (wpAny_bind (wpAny_attempt (wpAny_holding ?_)))
  unfold callGetattribute boundAndCalled
  rw [if_neg (show ¬ (false && onTheHeap (Value.builtin "BaseException.__getattribute__")) = true from Bool.false_ne_true), PySem.F.excAttr_ValueError.ga.bind (.ref x)]
  refine wpAny_bind (wpAny_pure ?_)
  refine wpAny_call (codeAny_call_builtin (args := ⟨[.ref x, .str "__class__" t], []⟩) PySem.F.excAttr_ValueError.ga.plain PySem.F.entry_bexc_ga ?_)
  refine @check_slot (model prog w) _ _ ⟨hp, g, d, t + 1, os⟩ "BaseException.__getattribute__" "BaseException" "__getattribute__" (.ref x) [.str "__class__" t] [] _ (by decide +kernel) (by decide +kernel) isx (PySem.F.args_bexc_ga (.ref x) (.str "__class__" t)) ?_
  unfold Builtin.«object.__getattribute__»
  refine wpAny_bind (wpAny_of_eq (a := ((Value.ref x : Value), [Value.str "__class__" t])) (by first | rfl | (simp only [slotArgs]; rfl)) ?_)
  refine wpAny_bind (wpAny_pure (wpAny_bind (I.type.at (wpAny_bind ((looks_find X I found).at ?_)))))
  refine wpAny_bind (wpAny_holding (wpAny_call (class_get (s := ⟨hp, g, d, t + 1, os⟩) (tp := .ref D) X I hm (wpAny_pure ?_))))
  show wpAny _ _ (handedOut (.ref D)) _ _ _
  rw [handedOut_of (v := .ref D) rfl]
  first | exact wpAny_pure (wpAny_pure h) | exact wpAny_pure h | exact wpAny_pure (wpAny_bind (wpAny_pure (wpAny_pure h)))
theorem kitx_exc {K : Frag} {x D : Addr} (C : ExcC K D) : KitX K (.ref x) (.ref D) (fun h => ∃ ox od, InstAt h x ox D od) where
  ty := fun _ _ _ ⟨_, _, I⟩ => I.type
  it := fun _ _ X _ => by
    obtain ⟨cd, hc, _⟩ := any_some C.hd
    unfold clsIn at hc
    split at hc
    · rename_i c' d' cd' sl' ho
      intro A' Q' E' s' k q
      unfold isType loadHead
      exact wpAny_bind (wpAny_loadPart (k _ _ (X _ _ ho)) (wpAny_pure q))
    · cases hc
  ne := fun h tp dd its n sl X htp => by
    obtain ⟨cd, hc, _⟩ := any_some C.hd
    refine Bool.eq_false_iff.mpr fun q => ?_
    have e : D = tp := Value.ref.inj (beq_iff_eq.mp q)
    subst e
    unfold clsIn at hc
    split at hc
    · rename_i c' d' cd' sl' ho
      cases (X _ _ ho).symm.trans htp
    · cases hc
  ca := fun X ⟨_, _, I⟩ k => exc_cls C X I k
/-- isinstance(e, c), e the caught error at a, of the class at D, its dict at dx -/
theorem call_isG {X : Cx} {a D dx : Addr} {oe : Obj} {pn : List (Addr × Obj)} (C : ExcC X.K D) (hz : Zc (.ref D) (some dx) oe) (hf : ∃ vs, oe.data = .fields vs) :
    CallR (X.suite a ((a, oe) :: pn)) (.builtin "isinstance") (fun xs H Q => (∃ fs, H dx = some (.xd fs)) ∧ rIsE X.K D a xs H Q) := by
  intro pins s σ H xs us Q I r h
  obtain ⟨⟨fs, hd⟩, c, cv, b, rfl, hcv, e, q⟩ := h
  obtain ⟨u1, u2, rfl, r1, r2⟩ := vals2 r
  have ec := hcv _ r2
  subst ec
  cases r1
  obtain ⟨hget, _⟩ := I.pin (a, oe) (List.mem_append.mpr (.inl List.mem_cons_self))
  have hx : ObjOk X.prog X.w H s.heap dx (.xd fs) := I.hok dx _ hd
  obtain ⟨mA, hns, _⟩ := hx
  obtain ⟨od, ho, _⟩ := lookIn_ns hns
  obtain ⟨vs, hv⟩ := hf
  have J : InstAt s.heap a oe D (some od) := ⟨hget, hz.1, by unfold notCls; rw [hv] <;> rfl, by rw [hz.2]; exact ho⟩
  exact kia_one (kitx_exc C) I.kIn ⟨_, _, J⟩ e (fun z => nomatch z) fun tk => ⟨.bl b, H, I.kept (t' := tk) fun _ _ z => z, rfl, q⟩
end Sg
/-! Sg0: data in a frozen part of the heap; the owned rest -/
namespace Sg
open PySem PySem.Spec PyProof.Rows L2
abbrev KF := PySem.W.Frag
abbrev Tx := List Nat
abbrev mkS (l : Tx) : Str := ⟨l.toArray⟩
def tx (s : String) : Tx := (Str.ofString s).cps.toList
theorem mkS_tx (s : String) : mkS (tx s) = Str.ofString s := by simp [mkS, tx]
@[simp] theorem mkS_list (l : Tx) : (mkS l).cps.toList = l := by simp [mkS]
theorem mkS_len (l : Tx) : (mkS l).length = l.length := by simp [mkS, Str.length]
theorem mkS_inj {a b : Tx} (h : mkS a = mkS b) : a = b := by
  have := congrArg (fun z : Str => z.cps.toList) h
  simpa using this
theorem mkS_app (a b : Tx) : mkS a ++ mkS b = mkS (a ++ b) := by
  show (⟨_⟩ : Str) = ⟨_⟩
  simp [mkS]
/-- one sign -/
structure Ch where
  c : Nat
  deriving DecidableEq, Repr
abbrev Ch.t (x : Ch) : Tx := [x.c]
structure T2 (α β : Type) where
  (a : α) (b : β)
  deriving DecidableEq
structure T3 (α β γ : Type) where
  (a : α) (b : β) (c : γ)
  deriving DecidableEq
structure T4 (α β γ δ : Type) where
  (a : α) (b : β) (c : γ) (d : δ)
  deriving DecidableEq
structure T5 (α β γ δ ε : Type) where
  (a : α) (b : β) (c : γ) (d : δ) (e : ε)
  deriving DecidableEq

theorem Same.tup {K : KF} {H H' : Hp} {a : Addr} {xs : List V} (e : Same H H') (h : SqT K H a xs) : SqT K H' a xs := by
  rcases h with (h | ⟨o, h⟩) | h
  · exact .inl (.inl (e _ _ h))
  · exact .inl (.inr ⟨o, e _ _ h⟩)
  · exact .inr h

class Enc (α : Type) where
  enc : KF → Hp → V → α → Prop
  mono : ∀ {K : KF} {B B' : Hp} {v : V} {x : α}, Same B B' → enc K B v x → enc K B' v x
open Enc (enc)
instance : Enc Int := ⟨fun _ _ v x => v = .int x, fun _ h => h⟩
instance : Enc Bool := ⟨fun _ _ v x => v = .bl x, fun _ h => h⟩
instance : Enc Unit := ⟨fun _ _ v _ => v = .non, fun _ h => h⟩
instance encTx : Enc Tx := ⟨fun _ _ v x => v = .str (mkS x), fun _ h => h⟩
instance : Enc Ch := ⟨fun _ _ v x => v = .str ⟨#[x.c]⟩, fun _ h => h⟩
/-- pairwise -/
inductive EncL {α : Type} [Enc α] (K : KF) (B : Hp) : List V → List α → Prop
  | nil : EncL K B [] []
  | cons {v : V} {x : α} {vs : List V} {xs : List α} : enc K B v x → EncL K B vs xs → EncL K B (v :: vs) (x :: xs)
theorem EncL.mono {α : Type} [Enc α] {K : KF} {B B' : Hp} (s : Same B B') : ∀ {vs : List V} {xs : List α}, EncL K B vs xs → EncL K B' vs xs
  | _, _, .nil => .nil
  | _, _, .cons h t => .cons (Enc.mono s h) (EncL.mono s t)
theorem EncL.len {α : Type} [Enc α] {K : KF} {B : Hp} : ∀ {vs : List V} {xs : List α}, EncL K B vs xs → vs.length = xs.length
  | _, _, .nil => rfl
  | _, _, .cons _ t => congrArg (· + 1) (EncL.len t)
theorem EncL.app {α : Type} [Enc α] {K : KF} {B : Hp} : ∀ {vs ws : List V} {xs ys : List α}, EncL K B vs xs → EncL K B ws ys → EncL K B (vs ++ ws) (xs ++ ys)
  | _, _, _, _, .nil, h => h
  | _, _, _, _, .cons a t, h => .cons a (EncL.app t h)
theorem EncL.drop {α : Type} [Enc α] {K : KF} {B : Hp} : ∀ {vs : List V} {xs : List α} (n : Nat), EncL K B vs xs → EncL K B (vs.drop n) (xs.drop n)
  | _, _, 0, h => h
  | _, _, _ + 1, .nil => .nil
  | _, _, n + 1, .cons _ t => EncL.drop n t
theorem EncL.take {α : Type} [Enc α] {K : KF} {B : Hp} : ∀ {vs : List V} {xs : List α} (n : Nat), EncL K B vs xs → EncL K B (vs.take n) (xs.take n)
  | _, _, 0, _ => .nil
  | _, _, _ + 1, .nil => .nil
  | _, _, n + 1, .cons a t => .cons a (EncL.take n t)
theorem EncL.get {α : Type} [Enc α] {K : KF} {B : Hp} : ∀ {vs : List V} {xs : List α} {i : Nat} {x : α}, EncL K B vs xs → xs[i]? = some x → ∃ v, vs[i]? = some v ∧ enc K B v x
  | _, _, _, _, .nil, h => by simp at h
  | _, _, 0, _, .cons a _, h => by
    have e := Option.some.inj h
    subst e
    exact ⟨_, rfl, a⟩
  | _, _, i + 1, _, .cons _ t, h => by
    obtain ⟨v, h1, h2⟩ := EncL.get (i := i) t (by simpa using h)
    exact ⟨v, by simpa using h1, h2⟩
theorem EncL.getV {α : Type} [Enc α] {K : KF} {B : Hp} : ∀ {vs : List V} {xs : List α} {i : Nat} {v : V}, EncL K B vs xs → vs[i]? = some v → ∃ x, xs[i]? = some x ∧ enc K B v x
  | _, _, _, _, .nil, h => by simp at h
  | _, _, 0, _, .cons a _, h => by
    have e := Option.some.inj h
    subst e
    exact ⟨_, rfl, a⟩
  | _, _, i + 1, _, .cons _ t, h => by
    obtain ⟨v, h1, h2⟩ := EncL.getV (i := i) t (by simpa using h)
    exact ⟨v, by simpa using h1, h2⟩
theorem EncL.rev {α : Type} [Enc α] {K : KF} {B : Hp} : ∀ {vs : List V} {xs : List α}, EncL K B vs xs → EncL K B vs.reverse xs.reverse
  | _, _, .nil => .nil
  | _, _, .cons a t => by
    rw [List.reverse_cons, List.reverse_cons]
    exact (EncL.rev t).app (.cons a .nil)
theorem EncL.erase {α : Type} [Enc α] {K : KF} {B : Hp} : ∀ {vs : List V} {xs : List α} (i : Nat), EncL K B vs xs → EncL K B (vs.eraseIdx i) (xs.eraseIdx i)
  | _, _, _, .nil => .nil
  | _, _, 0, .cons _ t => t
  | _, _, i + 1, .cons a t => .cons a (EncL.erase i t)
instance encList {α : Type} [Enc α] : Enc (List α) := ⟨fun K B v l => ∃ a vs, v = .ref a ∧ B a = some (.lst vs) ∧ EncL K B vs l, fun s ⟨a, vs, e, h, t⟩ => ⟨a, vs, e, s _ _ h, t.mono s⟩⟩
instance {α β : Type} [Enc α] [Enc β] : Enc (T2 α β) := ⟨fun K B v t => ∃ p x y, v = .ref p ∧ SqT K B p [x, y] ∧ enc K B x t.a ∧ enc K B y t.b, fun s ⟨p, x, y, e, h, h1, h2⟩ => ⟨p, x, y, e, Same.tup s h, Enc.mono s h1, Enc.mono s h2⟩⟩
instance {α β γ : Type} [Enc α] [Enc β] [Enc γ] : Enc (T3 α β γ) := ⟨fun K B v t => ∃ p x y z, v = .ref p ∧ SqT K B p [x, y, z] ∧ enc K B x t.a ∧ enc K B y t.b ∧ enc K B z t.c,
  fun s ⟨p, x, y, z, e, h, h1, h2, h3⟩ => ⟨p, x, y, z, e, Same.tup s h, Enc.mono s h1, Enc.mono s h2, Enc.mono s h3⟩⟩
instance {α β γ δ ε : Type} [Enc α] [Enc β] [Enc γ] [Enc δ] [Enc ε] : Enc (T5 α β γ δ ε) := ⟨fun K B v t => ∃ p x y z w u, v = .ref p ∧ SqT K B p [x, y, z, w, u] ∧ enc K B x t.a ∧ enc K B y t.b ∧ enc K B z t.c ∧ enc K B w t.d ∧ enc K B u t.e,
  fun s ⟨p, x, y, z, w, u, e, h, h1, h2, h3, h4, h5⟩ => ⟨p, x, y, z, w, u, e, Same.tup s h, Enc.mono s h1, Enc.mono s h2, Enc.mono s h3, Enc.mono s h4, Enc.mono s h5⟩⟩
instance {α : Type} [Enc α] : Enc (Option α) := ⟨fun K B v t => match t with | none => v = .non | some x => enc K B v x, fun {K B B' v x} s h => by
  cases x with
  | none => exact h
  | some x => exact Enc.mono s h⟩
theorem enc_int {K : KF} {B : Hp} {v : V} {x : Int} : enc K B v x ↔ v = .int x := Iff.rfl
/-! data of any kind -/
mutual
theorem Dp.up {K : KF} {B B' : Hp} (s : Same B B') : ∀ {v : V} {d : PyData}, Dp K B v d → Dp K B' v d
  | _, _, .non => .non
  | _, _, .bl b => .bl b
  | _, _, .int i => .int i
  | _, _, .str x => .str x
  | _, _, .lst h t => .lst (s.seq h) (DpAll.up s t)
  | _, _, .tup h t => .tup (Same.tup s h) (DpAll.up s t)
theorem DpAll.up {K : KF} {B B' : Hp} (s : Same B B') : ∀ {vs : List V} {ds : List PyData}, DpAll K B vs ds → DpAll K B' vs ds
  | _, _, .nil => .nil
  | _, _, .cons h t => .cons (Dp.up s h) (DpAll.up s t)
end
instance : Enc PyData := ⟨fun K B v d => Dp K B v d, fun s h => Dp.up s h⟩
class ToD (α : Type) extends Enc α where
  toD : α → PyData
  dp : ∀ {K : KF} {B : Hp} {v : V} {x : α}, enc K B v x → Dp K B v (toD x)
open ToD (toD)
instance : ToD Int := ⟨fun x => .int x, fun {K B v x} h => by
  have h : v = .int x := h
  subst h
  exact .int _⟩
instance : ToD Bool := ⟨fun x => .bool x, fun {K B v x} h => by
  have h : v = .bl x := h
  subst h
  exact .bl _⟩
instance : ToD Unit := ⟨fun _ => .none, fun {K B v x} h => by
  have h : v = .non := h
  subst h
  exact .non⟩
instance tdTx : ToD Tx := ⟨fun x => .str (mkS x), fun {K B v x} h => by
  have h : v = .str (mkS x) := h
  subst h
  exact .str _⟩
instance : ToD Ch := ⟨fun x => .str (mkS [x.c]), fun {K B v x} h => by
  have h : v = .str ⟨#[x.c]⟩ := h
  subst h
  exact .str _⟩
instance : ToD PyData := ⟨fun x => x, fun h => h⟩
theorem EncL.dp {α : Type} [ToD α] {K : KF} {B : Hp} : ∀ {vs : List V} {xs : List α}, EncL K B vs xs → DpAll K B vs (xs.map toD)
  | _, _, .nil => .nil
  | _, _, .cons h t => .cons (ToD.dp h) (EncL.dp t)
instance tdList {α : Type} [ToD α] : ToD (List α) := ⟨fun l => .list (l.map toD), fun {K B v x} h => by
  obtain ⟨a, vs, rfl, h1, h2⟩ := h
  exact .lst (SqL.of h1) h2.dp⟩
instance {α β : Type} [ToD α] [ToD β] : ToD (T2 α β) := ⟨fun t => .tuple [toD t.a, toD t.b], fun {K B v x} h => by
  obtain ⟨p, x, y, rfl, h, h1, h2⟩ := h
  exact .tup h (.cons (ToD.dp h1) (.cons (ToD.dp h2) .nil))⟩
instance {α β γ : Type} [ToD α] [ToD β] [ToD γ] : ToD (T3 α β γ) := ⟨fun t => .tuple [toD t.a, toD t.b, toD t.c], fun {K B v x} h => by
  obtain ⟨p, x, y, z, rfl, h, h1, h2, h3⟩ := h
  exact .tup h (.cons (ToD.dp h1) (.cons (ToD.dp h2) (.cons (ToD.dp h3) .nil)))⟩
instance {α β γ δ ε : Type} [ToD α] [ToD β] [ToD γ] [ToD δ] [ToD ε] : ToD (T5 α β γ δ ε) := ⟨fun t => .tuple [toD t.a, toD t.b, toD t.c, toD t.d, toD t.e], fun {K B v x} h => by
  obtain ⟨p, x, y, z, w, u, rfl, h, h1, h2, h3, h4, h5⟩ := h
  exact .tup h (.cons (ToD.dp h1) (.cons (ToD.dp h2) (.cons (ToD.dp h3) (.cons (ToD.dp h4) (.cons (ToD.dp h5) .nil)))))⟩
instance {α : Type} [ToD α] : ToD (Option α) := ⟨fun t => match t with | none => .none | some x => toD x, fun {K B v x} h => by
  cases x with
  | none =>
    have h : v = .non := h
    subst h
    exact .non
  | some x => exact ToD.dp (α := α) h⟩

/-! the heap in two parts: B, what stays; own, what is still written -/
structure Wd (H0 : Hp) (ms : List Addr) (B0 B H : Hp) (own : List (Addr × HO)) : Prop where
  b0 : Same B0 B
  sub : Same B H
  keep : ∀ b o, H0 b = some o → b ∉ ms → H b = some o
  at_ : ∀ p ∈ own, H p.1 = some p.2
  nB : ∀ p ∈ own, B p.1 = none
  mine : ∀ p ∈ own, H0 p.1 = none ∨ p.1 ∈ ms
  nd : (own.map (·.1)).Nodup
  prov : ∀ b o, B b = some o → B0 b = some o ∨ H0 b = none
  mo : ∀ a ∈ ms, ∃ o, (a, o) ∈ own
  mh : ∀ a ∈ ms, ∃ o, H0 a = some o
/-- what a call leaves -/
structure Aft (ms : List Addr) (B H B' H' : Hp) : Prop where
  bb : Same B B'
  sub : Same B' H'
  keep : ∀ b o, H b = some o → b ∉ ms → H' b = some o
  prov : ∀ b o, B' b = some o → B b = some o ∨ H b = none
section
variable {H0 B0 B H B' H' : Hp} {ms : List Addr} {own : List (Addr × HO)} {p a : Addr} {o o' : HO}
theorem Wd.aft (W : Wd H0 ms B0 B H own) : Aft ms B0 H0 B H := ⟨W.b0, W.sub, W.keep, W.prov⟩
theorem Wd.start0 (s : Same B H) : Wd H [] B B H [] := ⟨Same.refl _, s, fun _ _ h _ => h, fun _ h => (nomatch h), fun _ h => (nomatch h), fun _ h => (nomatch h), .nil, fun _ _ h => .inl h, fun _ h => (nomatch h), fun _ h => (nomatch h)⟩
theorem Wd.start1 (s : Same B H) (h : H a = some o) (n : B a = none) : Wd H [a] B B H [(a, o)] :=
  ⟨Same.refl _, s, fun _ _ h _ => h, fun q hq => by cases List.mem_singleton.mp hq; exact h, fun q hq => by cases List.mem_singleton.mp hq; exact n, fun q hq => by cases List.mem_singleton.mp hq; exact .inr (List.mem_singleton.mpr rfl),
    by simp, fun _ _ h => .inl h, fun b hb => by cases List.mem_singleton.mp hb; exact ⟨o, List.mem_singleton.mpr rfl⟩, fun b hb => by cases List.mem_singleton.mp hb; exact ⟨o, h⟩⟩
theorem Wd.free0 (W : Wd H0 ms B0 B H own) (hp : H p = none) : H0 p = none := by
  cases e : H0 p with
  | none => rfl
  | some o =>
    by_cases hm : p ∈ ms
    · obtain ⟨o', ho⟩ := W.mo p hm
      rw [W.at_ _ ho] at hp
      cases hp
    · rw [W.keep _ _ e hm] at hp
      cases hp
theorem Wd.freeB (W : Wd H0 ms B0 B H own) (hp : H p = none) : B p = none := W.sub.free hp
theorem Wd.neOwn (W : Wd H0 ms B0 B H own) (hp : H p = none) : ∀ q ∈ own, q.1 ≠ p := fun q hq e => by
  rw [← e, W.at_ q hq] at hp
  cases hp
theorem same_new {H : Hp} {p : Addr} {o : HO} (h : H p = none) : Same H (upd H p o) := fun b x e => by
  rw [upd_ne (ne_of_none e h)]
  exact e
theorem Wd.new (W : Wd H0 ms B0 B H own) (hp : H p = none) : ∃ B', Wd H0 ms B0 B' (upd H p o) own ∧ Same B B' ∧ B' p = some o := by
  have nB := W.freeB hp
  have sB : Same B (upd B p o) := same_new nB
  refine ⟨upd B p o, ⟨W.b0.trans sB, fun b x e => ?_, fun b x e hm => same_new hp _ _ (W.keep b x e hm), fun q hq => ?_, fun q hq => ?_, W.mine, W.nd, fun b x e => ?_, W.mo, W.mh⟩, sB, upd_same⟩
  · by_cases hb : b = p
    · subst hb
      rw [upd_same] at e ⊢
      exact e
    · rw [upd_ne hb] at e ⊢
      exact W.sub _ _ e
  · rw [upd_ne (W.neOwn hp q hq)]
    exact W.at_ q hq
  · rw [upd_ne (W.neOwn hp q hq)]
    exact W.nB q hq
  · by_cases hb : b = p
    · subst hb
      exact .inr (W.free0 hp)
    · rw [upd_ne hb] at e
      exact W.prov _ _ e
theorem Wd.newO (W : Wd H0 ms B0 B H own) (hp : H p = none) : Wd H0 ms B0 B (upd H p o) ((p, o) :: own) := by
  refine ⟨W.b0, W.sub.trans (same_new hp), fun b x e hm => same_new hp _ _ (W.keep b x e hm), fun q hq => ?_, fun q hq => ?_, fun q hq => ?_, ?_, W.prov, fun a ha => ?_, W.mh⟩
  · rcases List.mem_cons.mp hq with rfl | hq
    · exact upd_same
    · rw [upd_ne (W.neOwn hp q hq)]
      exact W.at_ q hq
  · rcases List.mem_cons.mp hq with rfl | hq
    · exact W.freeB hp
    · exact W.nB q hq
  · rcases List.mem_cons.mp hq with rfl | hq
    · exact .inl (W.free0 hp)
    · exact W.mine q hq
  · rw [List.map_cons, List.nodup_cons]
    refine ⟨fun hm => ?_, W.nd⟩
    obtain ⟨q, hq, e⟩ := List.mem_map.mp hm
    exact W.neOwn hp q hq e
  · obtain ⟨o', h⟩ := W.mo a ha
    exact ⟨o', List.mem_cons_of_mem _ h⟩
theorem own_set {own : List (Addr × HO)} {i : Nat} {a : Addr} {o o' : HO} (h : own[i]? = some (a, o)) : (own.set i (a, o')).map (·.1) = own.map (·.1) := by
  rw [List.map_set]
  apply List.ext_getElem?
  intro j
  by_cases hj : j = i
  · subst hj
    simp only [List.getElem?_set, List.getElem?_map, h]
    have hl : j < own.length := (List.getElem?_eq_some_iff.mp h).1
    simp [hl]
  · simp only [List.getElem?_set, List.getElem?_map]
    rw [if_neg (Ne.symm hj)]
theorem own_ne {own : List (Addr × HO)} {i : Nat} {a : Addr} {o : HO} (nd : (own.map (·.1)).Nodup) (h : own[i]? = some (a, o)) {j : Nat} {q : Addr × HO} (hq : own[j]? = some q) (hj : j ≠ i) : q.1 ≠ a := fun e => by
  have h1 : (own.map (·.1))[i]? = some a := by simp [h]
  have h2 : (own.map (·.1))[j]? = some a := by simp [hq, e]
  exact hj (nd_ix nd h2 h1)
theorem Wd.put (W : Wd H0 ms B0 B H own) (i : Nat) (h : own[i]? = some (a, o)) : Wd H0 ms B0 B (upd H a o') (own.set i (a, o')) := by
  have hm : (a, o) ∈ own := List.mem_of_getElem? h
  have sp : ∀ q ∈ own.set i (a, o'), q = (a, o') ∨ (q ∈ own ∧ q.1 ≠ a) := fun q hq => by
    obtain ⟨j, hj, e⟩ := List.getElem_of_mem hq
    rw [List.getElem_set] at e
    by_cases hji : i = j
    · rw [if_pos hji] at e
      exact .inl e.symm
    · rw [if_neg hji] at e
      have hj' : j < own.length := by simpa using hj
      have e2 : own[j]? = some q := by rw [List.getElem?_eq_getElem hj', e]
      exact .inr ⟨List.mem_of_getElem? e2, own_ne W.nd h e2 (Ne.symm hji)⟩
  refine ⟨W.b0, fun b x e => ?_, fun b x e hb => ?_, fun q hq => ?_, fun q hq => ?_, fun q hq => ?_, ?_, W.prov, fun c hc => ?_, W.mh⟩
  · have hne : b ≠ a := fun z => by
      rw [z, W.nB _ hm] at e
      cases e
    rw [upd_ne hne]
    exact W.sub _ _ e
  · have hne : b ≠ a := fun z => by
      rcases W.mine _ hm with n | n
      · rw [z, n] at e
        cases e
      · exact hb (z ▸ n)
    rw [upd_ne hne]
    exact W.keep _ _ e hb
  · rcases sp q hq with rfl | ⟨h1, h2⟩
    · exact upd_same
    · rw [upd_ne h2]
      exact W.at_ q h1
  · rcases sp q hq with rfl | ⟨h1, h2⟩
    · exact W.nB (a, o) hm
    · exact W.nB q h1
  · rcases sp q hq with rfl | ⟨h1, h2⟩
    · exact W.mine (a, o) hm
    · exact W.mine q h1
  · rw [own_set h]
    exact W.nd
  · obtain ⟨oc, hoc⟩ := W.mo c hc
    by_cases hca : c = a
    · subst hca
      have hl : i < own.length := (List.getElem?_eq_some_iff.mp h).1
      exact ⟨o', List.mem_of_getElem? (i := i) (by simp [hl])⟩
    · obtain ⟨j, hj, e⟩ := List.getElem_of_mem hoc
      have hji : j ≠ i := fun z => by
        subst z
        rw [List.getElem?_eq_getElem hj, e] at h
        exact hca (congrArg Prod.fst (Option.some.inj h))
      exact ⟨oc, List.mem_of_getElem? (i := j) (by
        rw [List.getElem?_set, if_neg (Ne.symm hji), List.getElem?_eq_getElem hj, e])⟩
/-- what was written stays from now on -/
theorem Wd.freeze (W : Wd H0 ms B0 B H ((a, o) :: own)) (hn : H0 a = none) : ∃ B', Wd H0 ms B0 B' H own ∧ Same B B' ∧ B' a = some o := by
  have hm : (a, o) ∈ (a, o) :: own := List.mem_cons_self
  have nB := W.nB _ hm
  have sB : Same B (upd B a o) := same_new nB
  have nd := W.nd
  rw [List.map_cons, List.nodup_cons] at nd
  have ne : ∀ q ∈ own, q.1 ≠ a := fun q hq e => nd.1 (e ▸ List.mem_map.mpr ⟨q, hq, rfl⟩)
  refine ⟨upd B a o, ⟨W.b0.trans sB, fun b x e => ?_, W.keep, fun q hq => W.at_ q (List.mem_cons_of_mem _ hq), fun q hq => ?_, fun q hq => W.mine q (List.mem_cons_of_mem _ hq), nd.2, fun b x e => ?_, fun c hc => ?_, W.mh⟩, sB, upd_same⟩
  · by_cases hb : b = a
    · subst hb
      rw [upd_same] at e
      rw [← e]
      exact W.at_ _ hm
    · rw [upd_ne hb] at e
      exact W.sub _ _ e
  · rw [upd_ne (ne q hq)]
    exact W.nB q (List.mem_cons_of_mem _ hq)
  · by_cases hb : b = a
    · subst hb
      exact .inr hn
    · rw [upd_ne hb] at e
      exact W.prov _ _ e
  · obtain ⟨oc, hoc⟩ := W.mo c hc
    rcases List.mem_cons.mp hoc with e | e
    · obtain ⟨oh, hh⟩ := W.mh c hc
      have ec : c = a := congrArg Prod.fst e
      rw [ec, hn] at hh
      cases hh
    · exact ⟨oc, e⟩
theorem Wd.perm {own' : List (Addr × HO)} (W : Wd H0 ms B0 B H own) (h : own.Perm own') : Wd H0 ms B0 B H own' :=
  ⟨W.b0, W.sub, W.keep, fun q hq => W.at_ q (h.mem_iff.mpr hq), fun q hq => W.nB q (h.mem_iff.mpr hq), fun q hq => W.mine q (h.mem_iff.mpr hq), (h.map _).nodup_iff.mp W.nd, W.prov, fun a ha => by
    obtain ⟨o, ho⟩ := W.mo a ha
    exact ⟨o, h.mem_iff.mp ho⟩, W.mh⟩
theorem Wd.got (W : Wd H0 ms B0 B H own) (i : Nat) (h : own[i]? = some (a, o)) : H a = some o := W.at_ _ (List.mem_of_getElem? h)
theorem Wd.nb (W : Wd H0 ms B0 B H own) (i : Nat) (h : own[i]? = some (a, o)) : B a = none := W.nB _ (List.mem_of_getElem? h)
/-- a call that writes nothing of ours -/
theorem Wd.call0 (W : Wd H0 ms B0 B H own) (A : Aft [] B H B' H') : Wd H0 ms B0 B' H' own := by
  have k : ∀ b o, H b = some o → H' b = some o := fun b o e => A.keep b o e (by simp)
  refine ⟨W.b0.trans A.bb, A.sub, fun b o e hm => k _ _ (W.keep _ _ e hm), fun q hq => k _ _ (W.at_ q hq), fun q hq => ?_, W.mine, W.nd, fun b o e => ?_, W.mo, W.mh⟩
  · cases e : B' q.1 with
    | none => rfl
    | some o =>
      rcases A.prov _ _ e with z | z
      · rw [W.nB q hq] at z
        cases z
      · rw [W.at_ q hq] at z
        cases z
  · rcases A.prov _ _ e with z | z
    · exact W.prov _ _ z
    · exact .inr (W.free0 z)
/-- a call that writes the i-th of ours -/
theorem Wd.call1 (W : Wd H0 ms B0 B H own) (i : Nat) (h : own[i]? = some (a, o)) (A : Aft [a] B H B' H') (ha : H' a = some o') : Wd H0 ms B0 B' H' (own.set i (a, o')) := by
  have hm : (a, o) ∈ own := List.mem_of_getElem? h
  have k : ∀ b o, H b = some o → b ≠ a → H' b = some o := fun b o e ne => A.keep b o e (by simpa using ne)
  have sp : ∀ q ∈ own.set i (a, o'), q = (a, o') ∨ (q ∈ own ∧ q.1 ≠ a) := fun q hq => by
    obtain ⟨j, hj, e⟩ := List.getElem_of_mem hq
    rw [List.getElem_set] at e
    by_cases hji : i = j
    · rw [if_pos hji] at e
      exact .inl e.symm
    · rw [if_neg hji] at e
      have hj' : j < own.length := by simpa using hj
      have e2 : own[j]? = some q := by rw [List.getElem?_eq_getElem hj', e]
      exact .inr ⟨List.mem_of_getElem? e2, own_ne W.nd h e2 (Ne.symm hji)⟩
  have nBa : ∀ q : Addr × HO, q ∈ own → B' q.1 = none := fun q hq => by
    cases e : B' q.1 with
    | none => rfl
    | some o =>
      rcases A.prov _ _ e with z | z
      · rw [W.nB q hq] at z
        cases z
      · rw [W.at_ q hq] at z
        cases z
  refine ⟨W.b0.trans A.bb, A.sub, fun b x e hb => ?_, fun q hq => ?_, fun q hq => ?_, fun q hq => ?_, ?_, fun b o e => ?_, fun c hc => ?_, W.mh⟩
  · refine k _ _ (W.keep _ _ e hb) fun z => ?_
    rcases W.mine (a, o) hm with n | n
    · rw [z, n] at e
      cases e
    · exact hb (z ▸ n)
  · rcases sp q hq with rfl | ⟨h1, h2⟩
    · exact ha
    · exact k _ _ (W.at_ q h1) h2
  · rcases sp q hq with rfl | ⟨h1, h2⟩
    · exact nBa (a, o) hm
    · exact nBa q h1
  · rcases sp q hq with rfl | ⟨h1, h2⟩
    · exact W.mine (a, o) hm
    · exact W.mine q h1
  · rw [own_set h]
    exact W.nd
  · rcases A.prov _ _ e with z | z
    · exact W.prov _ _ z
    · exact .inr (W.free0 z)
  · obtain ⟨oc, hoc⟩ := W.mo c hc
    by_cases hca : c = a
    · subst hca
      have hl : i < own.length := (List.getElem?_eq_some_iff.mp h).1
      exact ⟨o', List.mem_of_getElem? (i := i) (by simp [hl])⟩
    · obtain ⟨j, hj, e⟩ := List.getElem_of_mem hoc
      have hji : j ≠ i := fun z => by
        subst z
        rw [List.getElem?_eq_getElem hj, e] at h
        exact hca (congrArg Prod.fst (Option.some.inj h))
      exact ⟨oc, List.mem_of_getElem? (i := j) (by
        rw [List.getElem?_set, if_neg (Ne.symm hji), List.getElem?_eq_getElem hj, e])⟩
end
end Sg
/-! Sg1: steps -/
namespace Sg
open Enc (enc)
open ToD (toD)
open PySem PySem.Spec PyProof.Rows L2
abbrev St := L2.St
abbrev FnP (K : KF) (x : Str) (st : Stmt) (f : Addr) (fd : FuncData) : Prop := FunD K x x (defArgs st) (defBody st) (defScope st) [] [] f fd
section
variable {σ : St} {H : Hp} {Q : VK} {v : V} {i : Nat} {ta tb te : TE} {r : R2} {D : Ends} {t1 t2 t u : TS} {c : TT}
theorem gv (h : σ[i]? = some (some v)) (q : Q v H) : tVar i σ H Q := ⟨v, h, q⟩
theorem gc (q : Q v H) : tC v σ H Q := q
theorem gs {s : String} (q : Q (.str (mkS (tx s))) H) : tC (.str (Str.ofString s)) σ H Q := by
  show Q (.str (Str.ofString s)) H
  rw [← mkS_tx]
  exact q
theorem go (h : ta σ H fun x H1 => tb σ H1 fun y H2 => r x y H2 Q) : tOp r ta tb σ H Q := h
theorem gu {r : V → Hp → VK → Prop} (h : ta σ H fun x H1 => r x H1 Q) : tUn r ta σ H Q := h
theorem gt {Q : Bool → Hp → Prop} (h : te σ H fun x H' => ∃ k, x = .bl k ∧ Q k H') : tTest te σ H Q := h
theorem gseq (h : t1 { D with nx := t2 D } σ H) : tSeq t1 t2 D σ H := h
theorem gasg (h : te σ H fun x H1 => D.nx (σ.set i (some x)) H1) : tAsg te (gName i) D σ H := h
theorem gif (h : c σ H fun b H1 => if b = true then t D σ H1 else u D σ H1) : tIfS c t u D σ H := h
theorem gret (h : te σ H D.rt) : tRet te D σ H := h
theorem gdrop (h : te σ H fun _ H1 => D.nx σ H1) : tDrop te D σ H := h
theorem gnext (h : D.nx σ H) : tNext D σ H := h
theorem gcall {sp : Sp} {dvs : List V} {E : XK} {t : TA} (h : t σ H fun vs H1 => sp (vs ++ dvs) H1 Q E) : tCall sp dvs E t σ H Q := h
theorem gcb {r : List V → Hp → VK → Prop} {t : TA} (h : t σ H fun vs H1 => r vs H1 Q) : tCB r t σ H Q := h
theorem gcons {tr : TA} {Q : List V → Hp → Prop} (h : ta σ H fun x H1 => tr σ H1 fun xs H2 => Q (x :: xs) H2) : tCons ta tr σ H Q := h
theorem gnil {Q : List V → Hp → Prop} (h : Q [] H) : tNil σ H Q := h
theorem r_i0 {g : Int → Int → V} {i j : Int} (q : Q (g i j) H) : rI0 g (.int i) (.int j) H Q := ⟨i, j, rfl, rfl, q⟩
theorem r_i {C : Int → Int → Prop} {g : Int → Int → V} {i j : Int} (hc : C i j) (q : Q (g i j) H) : rI C g (.int i) (.int j) H Q := ⟨i, j, rfl, rfl, hc, q⟩
theorem r_u {g : Int → V} {i : Int} (q : Q (g i) H) : rU g (.int i) H Q := ⟨i, rfl, q⟩
theorem iteB {b : Bool} {A B : Prop} (h1 : b = true → A) (h2 : b = false → B) : if b = true then A else B := by
  cases b with
  | true => rw [if_pos rfl]; exact h1 rfl
  | false => rw [if_neg Bool.false_ne_true]; exact h2 rfl
theorem r_eqI {i j : Int} (q : Q (.bl (decide (i = j))) H) : rEq (.int i) (.int j) H Q := ⟨rfl, by
  rw [show decide (V.int i = V.int j) = decide (i = j) by simp]
  exact q⟩
theorem r_neI {i j : Int} (q : Q (.bl (!decide (i = j))) H) : rNe (.int i) (.int j) H Q := ⟨rfl, by
  rw [show decide (V.int i = V.int j) = decide (i = j) by simp]
  exact q⟩
theorem r_eqB {i j : Bool} (q : Q (.bl (decide (i = j))) H) : rEq (.bl i) (.bl j) H Q := ⟨rfl, by
  rw [show decide (V.bl i = V.bl j) = decide (i = j) by simp]
  exact q⟩
theorem str_eq_iff {a b : Tx} : (V.str (mkS a) = V.str (mkS b)) ↔ a = b := ⟨fun h => mkS_inj (V.str.inj h), fun h => by rw [h]⟩
theorem r_eqS {a b : Tx} (q : Q (.bl (decide (a = b))) H) : rEq (.str (mkS a)) (.str (mkS b)) H Q := ⟨rfl, by
  rw [show decide (V.str (mkS a) = V.str (mkS b)) = decide (a = b) from decide_eq_decide.mpr str_eq_iff]
  exact q⟩
theorem r_neS {a b : Tx} (q : Q (.bl (!decide (a = b))) H) : rNe (.str (mkS a)) (.str (mkS b)) H Q := ⟨rfl, by
  rw [show decide (V.str (mkS a) = V.str (mkS b)) = decide (a = b) from decide_eq_decide.mpr str_eq_iff]
  exact q⟩
/-! texts -/
def rCatS : R2 := fun x y H Q => ∃ i j, x = .str i ∧ y = .str j ∧ i.length + j.length ≤ sizeLine ∧ Q (.str (i ++ j)) H
theorem op_catS {X : Cx} : OpR X (binaryOp .Add) rCatS := op_add_str
def catS (a b : Tx) : Option Tx := if a.length + b.length ≤ sizeLine then some (a ++ b) else none
theorem r_catS {a b z : Tx} (h : catS a b = some z) (q : Q (.str (mkS z)) H) : rCatS (.str (mkS a)) (.str (mkS b)) H Q := by
  unfold catS at h
  split at h
  · rename_i hl
    have e := Option.some.inj h
    subst e
    exact ⟨_, _, rfl, rfl, by rw [mkS_len, mkS_len]; exact hl, by rw [mkS_app]; exact q⟩
  · cases h
/-- s[i] -/
def ixS (a : Tx) (i : Int) : Option Nat := if a.length ≤ sizeLine then atI a i else none
theorem r_ixS {a : Tx} {i : Int} {c : Nat} (h : ixS a i = some c) (q : Q (.str (mkS [c])) H) : rIxS (.str (mkS a)) (.int i) H Q := by
  unfold ixS at h
  split at h
  · rename_i hl
    exact ⟨_, i, c, rfl, rfl, by rw [mkS_len]; exact hl, by rw [mkS_list]; exact h, q⟩
  · cases h
/-- s[lo:hi] -/
def slS (a : Tx) (lo hi : Option Int) : Option Tx := if a.length ≤ sizeLine then some ((a.drop (HT.sIx a.length 0 lo)).take (HT.sIx a.length a.length hi - HT.sIx a.length 0 lo)) else none
theorem r_slS {a z : Tx} {lo hi : Option Int} (h : slS a lo hi = some z) (q : Q (.str (mkS z)) H) : rSlS (.str (mkS a)) lo hi H Q := by
  unfold slS at h
  split at h
  · rename_i hl
    have e := Option.some.inj h
    subst e
    refine ⟨_, rfl, by rw [mkS_len]; exact hl, ?_⟩
    unfold cutS
    rw [mkS_len, mkS_list]
    exact q
  · cases h
theorem gsl {rs : V → Option Int → Option Int → Hp → VK → Prop} {tl th : TO} (h : te σ H fun x H1 => tl σ H1 fun l H2 => th σ H2 fun u H3 => rs x l u H3 Q) : tSl rs te tl th σ H Q := h
theorem gpn {Q : Option Int → Hp → Prop} (q : Q none H) : tNoPart σ H Q := q
theorem gps {Q : Option Int → Hp → Prop} (h : te σ H fun x H1 => ∃ i, x = .int i ∧ Q (some i) H1) : tPart te σ H Q := h
end
end Sg
/-! Sg2: loops -/
namespace Sg
open Enc (enc)
open ToD (toD)
open PySem PySem.Spec PyProof.Rows L2
def FB (J : It) (g : TG) (tb : TS) (D : Ends) (σ : St) (H : Hp) : Prop := ∃ W : Nat → Nat → St → Hp → Prop, (∃ m, W 0 m σ H) ∧ ∀ i m σ H, W i m σ H →
  (J.stop i H ∧ D.nx σ H) ∨ (J.go i H ∧ ∃ N : St → Hp → Prop, (∀ σ' H', N σ' H' → ∃ m', m' < m ∧ W (i + 1) m' σ' H') ∧ ∀ x H', J.yld i H x H' → g x σ H' fun σ2 H2 => tb { D with nx := N, ct := N, bk := D.nx } σ2 H2)
section
variable {σ : St} {H : Hp} {g : TG} {tb : TS} {D : Ends} {K : KF} {J : It}
theorem ob {α β : Type} {o : Option α} {f : α → Option β} {r : β} (h : o.bind f = some r) : ∃ a, o = some a ∧ f a = some r := Option.bind_eq_some_iff.mp h
theorem bt {α : Type} {b : Bool} {x y z : α} (hb : b = true) (h : (bif b then x else y) = z) : x = z := by
  subst hb
  exact h
theorem bf {α : Type} {b : Bool} {x y z : α} (hb : b = false) (h : (bif b then x else y) = z) : y = z := by
  subst hb
  exact h
theorem gforS {te : TE} (h : te σ H fun v H1 => ∃ x, v = .str x ∧ FB (Its x) g tb D σ H1) : tFor (iStr te) g tb D σ H := h
theorem gforL {te : TE} (h : te σ H fun x H1 => ∃ a, x = .ref a ∧ (∃ xs, SqL K H1 a xs) ∧ FB (Itl K a) g tb D σ H1) : tFor (iList K te) g tb D σ H := h
theorem gforT {te : TE} (h : te σ H fun x H1 => ∃ a, x = .ref a ∧ (∃ xs, SqT K H1 a xs) ∧ FB (Itt K a) g tb D σ H1) : tFor (iTup K te) g tb D σ H := h
theorem gforR {ta : TA} (h : ta σ H fun vs H1 => ∃ j : Int, vs = [.int j] ∧ -(2 ^ 62) ≤ j ∧ j < 2 ^ 62 ∧ FB (Itr 0 j.toNat) g tb D σ H1) : tFor (iRng1 ta) g tb D σ H := h
theorem gforR2 {ta : TA} (h : ta σ H fun vs H1 => ∃ i j : Int, vs = [.int i, .int j] ∧ (-(2 ^ 62) ≤ i ∧ i < 2 ^ 62 ∧ -(2 ^ 62) ≤ j ∧ j < 2 ^ 62) ∧ FB (Itr i (j - i).toNat) g tb D σ H1) : tFor (iRng2 ta) g tb D σ H := h
/-- any walk, by what is left -/
theorem loopW {α : Type} {n : Nat} {G : Hp → Prop} {Y : Nat → Hp → V → Hp → Prop} (w : Walk J n G Y) (l : List α) (hl : l.length = n) (P : List α → St → Hp → Prop) (h0 : P l σ H) (hG : ∀ r σ H, P r σ H → G H)
    (hs : ∀ (i : Nat) x r v σ H H', l.drop i = x :: r → l[i]? = some x → P (x :: r) σ H → Y i H v H' → g v σ H' fun σ2 H2 => tb { D with nx := P r, ct := P r, bk := D.nx } σ2 H2) (hd : ∀ σ H, P [] σ H → D.nx σ H) : FB J g tb D σ H := by
  refine for_it w (fun i σ H => P (l.drop i) σ H) h0 (fun i σ H _ h => hG _ _ _ h) (fun i v σ H H' hi h y => ?_) (fun σ H h => hd σ H ?_)
  · have hi' : i < l.length := by omega
    have e : l.drop i = l[i] :: l.drop (i + 1) := List.drop_eq_getElem_cons hi'
    have h' : P (l[i] :: l.drop (i + 1)) σ H := e ▸ h
    exact hs i l[i] (l.drop (i + 1)) v σ H H' e (List.getElem?_eq_getElem hi') h' y
  · rw [← hl, List.drop_length] at h
    exact h
theorem loopS {z : Tx} (P : Tx → St → Hp → Prop) (h0 : P z σ H) (hs : ∀ c r σ H, P (c :: r) σ H → g (.str (mkS [c])) σ H fun σ2 H2 => tb { D with nx := P r, ct := P r, bk := D.nx } σ2 H2)
    (hd : ∀ σ H, P [] σ H → D.nx σ H) : FB (Its (mkS z)) g tb D σ H := by
  refine loopW walk_str z (by simp [mkS]) P h0 (fun _ _ _ _ => trivial) (fun i x r v σ H H' e ex h y => ?_) hd
  obtain ⟨rfl, c, hc, rfl⟩ := y
  have hc' : z[i]? = some c := by simpa [mkS] using hc
  have := Option.some.inj (hc'.symm.trans ex)
  subst this
  exact hs c r σ H' h
def rangeI (lo : Int) (n : Nat) : List Int := (List.range n).map fun k => lo + (k : Nat)
theorem rangeI_len (lo : Int) (n : Nat) : (rangeI lo n).length = n := by simp [rangeI]
theorem loopR {lo : Int} {n : Nat} (P : List Int → St → Hp → Prop) (h0 : P (rangeI lo n) σ H) (hs : ∀ k r σ H, P (k :: r) σ H → g (.int k) σ H fun σ2 H2 => tb { D with nx := P r, ct := P r, bk := D.nx } σ2 H2)
    (hd : ∀ σ H, P [] σ H → D.nx σ H) : FB (Itr lo n) g tb D σ H := by
  refine loopW walk_range (rangeI lo n) (rangeI_len _ _) P h0 (fun _ _ _ _ => trivial) (fun i x r v σ H H' e ex h y => ?_) hd
  obtain ⟨rfl, rfl⟩ := y
  have hx : x = lo + (i : Nat) := by
    unfold rangeI at ex
    rw [List.getElem?_map] at ex
    cases q : (List.range n)[i]? with
    | none => rw [q] at ex; cases ex
    | some j =>
      rw [q] at ex
      have hj : j = i := by
        have := List.getElem?_eq_some_iff.mp q
        obtain ⟨hlt, hj⟩ := this
        simpa using hj.symm
      subst hj
      exact (Option.some.inj ex).symm
  subst hx
  exact hs _ r σ H' h
theorem loopL {α : Type} [Enc α] {B : Hp} {a : Addr} {vs : List V} {l : List α} (he : EncL K B vs l) (P : List α → St → Hp → Prop) (h0 : P l σ H) (hG : ∀ r σ H, P r σ H → H a = some (.lst vs))
    (hs : ∀ x r v σ H, P (x :: r) σ H → enc K B v x → g v σ H fun σ2 H2 => tb { D with nx := P r, ct := P r, bk := D.nx } σ2 H2) (hd : ∀ σ H, P [] σ H → D.nx σ H) : FB (Itl K a) g tb D σ H := by
  refine loopW walk_list l he.len.symm P h0 (fun r σ H h => SqL.of (hG r σ H h)) (fun i x r v σ H H' e ex h y => ?_) hd
  obtain ⟨rfl, hv⟩ := y
  obtain ⟨v', h1, h2⟩ := he.get ex
  have := Option.some.inj (hv.symm.trans h1)
  subst this
  exact hs x r v σ H' h h2
end
/-- two roads meet -/
theorem sjoin {t1 t2 : TS} {D : Ends} {σ : St} {H : Hp} (J : St → Hp → Prop) (rest : ∀ σ' H', J σ' H' → t2 D σ' H') (main : (∀ σ' H', J σ' H' → t2 D σ' H') → t1 { D with nx := t2 D } σ H) : tSeq t1 t2 D σ H := main rest
/-- c in s, one sign -/
theorem r_inC {H : Hp} {Q : VK} {c : Nat} {z : Tx} (q : Q (.bl (decide (c ∈ z))) H) : rInS (.str (mkS [c])) (.str (mkS z)) H Q := ⟨c, mkS z, rfl, rfl, by rw [mkS_list]; exact q⟩
theorem r_ninC {H : Hp} {Q : VK} {c : Nat} {z : Tx} (q : Q (.bl (!decide (c ∈ z))) H) : rNotInS (.str (mkS [c])) (.str (mkS z)) H Q := ⟨c, mkS z, rfl, rfl, by rw [mkS_list]; exact q⟩
end Sg
/-! Sg3: operations as the generator names them -/
namespace Sg
open Enc (enc)
open ToD (toD)
open PySem PySem.Spec PyProof.Rows L2
/-- the law's own state, without its cells -/
structure LS where
  (a b c d : Int)
def lsO (cl : Addr) (x : LS) : HO := .lst [.ref cl, .int x.a, .int x.b, .int x.c, .int x.d]
section
variable {σ : St} {H : Hp} {Q : VK} {v : V} {i : Nat} {ta tb te to : TE} {r : R2} {D : Ends} {K : KF} {B H0 B0 : Hp} {ms : List Addr} {a : Addr} {o : HO}
/-! tests -/
theorem gB {Q : Bool → Hp → Prop} (h : te σ H fun x H1 => ∃ c, x = .bl c ∧ Q c H1) : tB te σ H Q := h
theorem gN {c : TT} {Q : Bool → Hp → Prop} (h : c σ H fun b H1 => Q (!b) H1) : tNot c σ H Q := h
theorem gAnd {c d : TT} {Q : Bool → Hp → Prop} (h : c σ H fun b H1 => if b = true then d σ H1 Q else Q false H1) : tAnd c d σ H Q := h
theorem gOr {c d : TT} {Q : Bool → Hp → Prop} (h : c σ H fun b H1 => if b = true then Q true H1 else d σ H1 Q) : tOr c d σ H Q := h
theorem gch {r r' : R2} {tc : TE} (h : ta σ H fun x H1 => tb σ H1 fun y H2 => r x y H2 fun z H3 => ∃ k, z = .bl k ∧ (if k = true then tc σ H3 fun w' H4 => r' y w' H4 Q else Q (.bl false) H3)) : tChain r r' ta tb tc σ H Q := h
theorem gIfE {c : TT} (h : c σ H fun b H1 => if b = true then ta σ H1 Q else tb σ H1 Q) : tIf c ta tb σ H Q := h
theorem gNV (h : ta σ H fun x H1 => ∃ c, x = .bl c ∧ Q (.bl (!c)) H1) : tNotV ta σ H Q := h
theorem gAndV (h : ta σ H fun x H1 => ∃ c, x = .bl c ∧ if c = true then tb σ H1 Q else Q (.bl false) H1) : tAndV ta tb σ H Q := h
theorem gOrV (h : ta σ H fun x H1 => ∃ c, x = .bl c ∧ if c = true then Q (.bl true) H1 else tb σ H1 Q) : tOrV ta tb σ H Q := h
theorem tbox {c : TT} {Q : Bool → Hp → Prop} (P : Bool → Hp → Prop) (h : ∀ Q : Bool → Hp → Prop, (∀ b H', P b H' → Q b H') → c σ H Q) (k : ∀ b H', P b H' → Q b H') : c σ H Q := h Q k
theorem vbox (P : V → Hp → Prop) (h : ∀ Q : VK, (∀ v H', P v H' → Q v H') → te σ H Q) (k : ∀ v H', P v H' → Q v H') : te σ H Q := h Q k
/-! names of the module -/
theorem pe_gS {X : Cx} {x : Str} {z : Str} {pos : Pos} (hg : Gl X x) (hm : ∃ t, X.mg x = some (.str z t)) (hd : (x == ("__debug__" : Str)) = false := by decide) : PE X (.Name x pos) (tC (.str z)) := by
  obtain ⟨t, h⟩ := hm
  exact pe_glob hg h ⟨t, rfl⟩ hd
/-! ints -/
def mulI (i j : Int) : Option Int := if (-(2 ^ 64) < i ∧ i < 2 ^ 64) ∨ (-(2 ^ 64) < j ∧ j < 2 ^ 64) then some (i * j) else none
theorem r_mulI {i j z : Int} (h : mulI i j = some z) (q : Q (.int z) H) : rI CMul (fun i j => .int (i * j)) (.int i) (.int j) H Q := by
  unfold mulI at h
  split at h
  · rename_i hc
    cases Option.some.inj h
    exact r_i hc q
  · cases h
def fdivI (i j : Int) : Option Int := if 0 < j ∧ j.natAbs.log2 < 9000 then some (i / j) else none
theorem r_fdivI {i j z : Int} (h : fdivI i j = some z) (q : Q (.int z) H) : rI CDivW (fun i j => .int (i / j)) (.int i) (.int j) H Q := by
  unfold fdivI at h
  split at h
  · rename_i hc
    cases Option.some.inj h
    exact r_i hc q
  · cases h
def modI (i j : Int) : Option Int := if 0 < j then some (i % j) else none
theorem r_modI {i j z : Int} (h : modI i j = some z) (q : Q (.int z) H) : rI (fun _ j => 0 < j) (fun i j => .int (i % j)) (.int i) (.int j) H Q := by
  unfold modI at h
  split at h
  · rename_i hc
    cases Option.some.inj h
    exact r_i hc q
  · cases h
def powI (i j : Int) : Option Int := if 0 ≤ j ∧ j ≤ 1000000 ∧ i.natAbs < 2 ^ 64 then some (i ^ j.toNat) else none
theorem r_powI {i j z : Int} (h : powI i j = some z) (q : Q (.int z) H) : rI CPow (fun i j => .int (i ^ j.toNat)) (.int i) (.int j) H Q := by
  unfold powI at h
  split at h
  · rename_i hc
    cases Option.some.inj h
    exact r_i hc q
  · cases h
def rInt : List V → Hp → VK → Prop := fun xs H Q => (∃ i, xs = [.int i] ∧ Q (.int i) H) ∨ ∃ k, xs = [.bl k] ∧ Q (.int (if k then 1 else 0)) H
theorem call_intV {X : Cx} : CallR X (.type "int") rInt := call_int1
theorem r_intI {i : Int} (q : Q (.int i) H) : rInt [.int i] H Q := .inl ⟨i, rfl, q⟩
theorem r_intB {b : Bool} (q : Q (.int (if b then (1 : Int) else 0)) H) : rInt [.bl b] H Q := .inr ⟨b, rfl, q⟩
/-! texts -/
def rLenS : List V → Hp → VK → Prop := fun xs H Q => ∃ z : Str, xs = [.str z] ∧ z.length ≤ sizeLine ∧ Q (.int (z.length : Nat)) H
theorem call_lenS {X : Cx} : CallR X (.builtin "len") rLenS := by
  intro pins s σ H xs us Q I r h
  obtain ⟨z, rfl, hz, q⟩ := h
  exact call_len pins s σ H _ us Q I r ⟨_, _, rfl, ⟨hz, rfl⟩, q⟩
def lenS (a : Tx) : Option Int := if a.length ≤ sizeLine then some (a.length : Int) else none
theorem r_lenS {a : Tx} {z : Int} (h : lenS a = some z) (q : Q (.int z) H) : rLenS [.str (mkS a)] H Q := by
  unfold lenS at h
  split at h
  · rename_i hl
    cases Option.some.inj h
    exact ⟨_, rfl, by rw [mkS_len]; exact hl, by rw [mkS_len]; exact q⟩
  · cases h
def rLtS : R2 := fun x y H Q => ∃ i j, x = .str i ∧ y = .str j ∧ Q (.bl (decide (i.cps.toList < j.cps.toList))) H
def rGeS : R2 := fun x y H Q => ∃ i j, x = .str i ∧ y = .str j ∧ Q (.bl (!decide (i.cps.toList < j.cps.toList))) H
theorem op_ltS {X : Cx} : OpR X (compareOp .Lt) rLtS := op_lt_str
theorem op_geS {X : Cx} : OpR X (compareOp .GtE) rGeS := op_ge_str
theorem r_ltS {a b : Tx} (q : Q (.bl (decide (a < b))) H) : rLtS (.str (mkS a)) (.str (mkS b)) H Q := ⟨_, _, rfl, rfl, by rw [mkS_list, mkS_list]; exact q⟩
theorem r_geS {a b : Tx} (q : Q (.bl (!decide (a < b))) H) : rGeS (.str (mkS a)) (.str (mkS b)) H Q := ⟨_, _, rfl, rfl, by rw [mkS_list, mkS_list]; exact q⟩
/-- s.find(t) -/
def findS (a b : Tx) : Int := Txt.find (mkS a) (mkS b)
def rFindS : V → List V → Hp → VK → Prop := fun x xs H Q => ∃ a b, x = .str a ∧ xs = [.str b] ∧ Q (.int (Txt.find a b)) H
theorem mt_findS {X : Cx} : MtR X "str.find" rFindS := mt_find
theorem r_findS {a b : Tx} (q : Q (.int (findS a b)) H) : rFindS (.str (mkS a)) [.str (mkS b)] H Q := ⟨_, _, rfl, rfl, q⟩
theorem gM1 {rr : V → List V → Hp → VK → Prop} (h : to σ H fun x H1 => (∃ a, x = .str a) ∧ te σ H1 fun y H2 => rr x [y] H2 Q) : tM1 rr to te σ H Q := h
theorem gBM {T : String} {rr : V → List V → Hp → VK → Prop} {t : TA} (h : to σ H fun x H1 => tyV K T x H1 ∧ t σ H1 fun xs H2 => rr x xs H2 Q) : tBM K T rr to t σ H Q := h
/-! lists -/
/-- at v there stands a list of l: frozen, or one's own -/
def LAt {α : Type} [Enc α] (K : KF) (B H : Hp) (v : V) (l : List α) : Prop := ∃ a vs, v = .ref a ∧ H a = some (.lst vs) ∧ EncL K B vs l
theorem LAt.enc {α : Type} [Enc α] {v : V} {l : List α} (s : Same B H) (h : Enc.enc K B v l) : LAt K B H v l := by
  obtain ⟨a, vs, e, h1, h2⟩ := h
  exact ⟨a, vs, e, s _ _ h1, h2⟩
theorem LAt.own {α : Type} [Enc α] {l : List α} {vs : List V} {ow : List (Addr × HO)} (W : Wd H0 ms B0 B H ow) (i : Nat) (h : ow[i]? = some (a, .lst vs)) (e : EncL K B vs l) : LAt K B H (.ref a) l := ⟨a, vs, rfl, W.got i h, e⟩
def rLenL (K : KF) : List V → Hp → VK → Prop := fun xs H Q => ∃ p ys, xs = [.ref p] ∧ (SqL K H p ys ∨ SqT K H p ys) ∧ Q (.int ys.length) H
theorem call_lenL {X : Cx} : CallR X (.builtin "len") (rLenL X.K) := call_len_seq
theorem r_lenL {α : Type} [Enc α] {l : List α} (h : LAt K B H v l) (q : Q (.int (l.length : Int)) H) : rLenL K [v] H Q := by
  obtain ⟨a, vs, rfl, h1, h2⟩ := h
  exact ⟨a, vs, rfl, .inl (SqL.of h1), by rw [h2.len]; exact q⟩
theorem atI_enc {α : Type} [Enc α] {vs : List V} {l : List α} {i : Int} {x : α} (h : EncL K B vs l) (e : atI l i = some x) : ∃ v, atI vs i = some v ∧ enc K B v x := by
  unfold atI at e ⊢
  rw [h.len]
  cases q : ixN l.length i with
  | none => rw [q] at e; cases e
  | some j =>
    rw [q] at e
    exact h.get (i := j) e
theorem r_ixL {α : Type} [Enc α] {l : List α} {i : Int} {x : α} (h : LAt K B H v l) (e : atI l i = some x) (q : ∀ w, enc K B w x → Q w H) : rIxL K v (.int i) H Q := by
  obtain ⟨a, vs, rfl, h1, h2⟩ := h
  obtain ⟨w, h3, h4⟩ := atI_enc h2 e
  exact ⟨a, vs, i, w, rfl, rfl, SqL.of h1, h3, q w h4⟩
def nL (Q : VK) : List V → Hp → Prop := fun xs H1 => xs.length ≤ sizeLine ∧ ∀ p, H1 p = none → Q (.ref p) (upd H1 p (.lst xs))
def nT (Q : VK) : List V → Hp → Prop := fun xs H1 => xs.length ≤ sizeLine ∧ ∀ p, H1 p = none → Q (.ref p) (upd H1 p (.tup xs))
theorem glst {t : TA} (h : t σ H (nL Q)) : tLst t σ H Q := h
theorem gtup {t : TA} (h : t σ H (nT Q)) : tTup t σ H Q := h
def rRevL (K : KF) : V → Hp → VK → Prop := fun x H1 Q => ∃ a xs, x = .ref a ∧ SqL K H1 a xs ∧ ∀ p, H1 p = none → Q (.ref p) (upd H1 p (.lst xs.reverse))
theorem grvL (h : te σ H fun x H1 => rRevL K x H1 Q) : tRevL K te σ H Q := h
end
/-! new objects: the continuation as a letter -/
section
variable {H : Hp} {K : KF} {B H0 B0 : Hp} {ms : List Addr} {ow : List (Addr × HO)} {Q : VK} {v w : V} {α : Type} [Enc α]
/-- a new list of l, frozen -/
theorem newL {vs : List V} {l : List α} (W : Wd H0 ms B0 B H ow) (e : EncL K B vs l) (q : ∀ v B' H', Wd H0 ms B0 B' H' ow → Same B B' → enc K B' v l → Q v H') : ∀ p, H p = none → Q (.ref p) (upd H p (.lst vs)) := fun p hp => by
  obtain ⟨B', W', s, h⟩ := W.new (o := .lst vs) hp
  exact q _ B' _ W' s ⟨p, vs, rfl, h, e.mono s⟩
theorem newLO {vs : List V} {l : List α} (W : Wd H0 ms B0 B H ow) (e : EncL K B vs l) (q : ∀ p vs H', Wd H0 ms B0 B H' ((p, .lst vs) :: ow) → EncL K B vs l → Q (.ref p) H') : ∀ p, H p = none → Q (.ref p) (upd H p (.lst vs)) := fun p hp =>
  q p vs _ (W.newO hp) e
theorem r_lst {vs : List V} {l : List α} (W : Wd H0 ms B0 B H ow) (hl : vs.length ≤ sizeLine) (e : EncL K B vs l) (q : ∀ v B' H', Wd H0 ms B0 B' H' ow → Same B B' → enc K B' v l → Q v H') : nL Q vs H := ⟨hl, newL W e q⟩
theorem r_lstO {vs : List V} {l : List α} (W : Wd H0 ms B0 B H ow) (hl : vs.length ≤ sizeLine) (e : EncL K B vs l) (q : ∀ p vs H', Wd H0 ms B0 B H' ((p, .lst vs) :: ow) → EncL K B vs l → Q (.ref p) H') : nL Q vs H := ⟨hl, newLO W e q⟩
def catL (a b : List α) : Option (List α) := if a.length + b.length ≤ sizeLine then some (a ++ b) else none
theorem r_catL {a b z : List α} (W : Wd H0 ms B0 B H ow) (h1 : LAt K B H v a) (h2 : LAt K B H w b) (h : catL a b = some z) (q : ∀ v B' H', Wd H0 ms B0 B' H' ow → Same B B' → enc K B' v z → Q v H') : L2.rCat v w H Q := by
  unfold catL at h
  split at h
  · rename_i hl
    cases Option.some.inj h
    obtain ⟨p1, v1, rfl, a1, b1⟩ := h1
    obtain ⟨p2, v2, rfl, a2, b2⟩ := h2
    exact ⟨p1, p2, v1, v2, rfl, rfl, a1, a2, by rw [b1.len, b2.len]; exact hl, newL W (b1.app b2) q⟩
  · cases h
def slL {β : Type} (a : List β) (lo hi : Option Int) : List β := (a.drop (HT.sIx a.length 0 lo)).take (HT.sIx a.length a.length hi - HT.sIx a.length 0 lo)
theorem r_slL {a : List α} {lo hi : Option Int} (W : Wd H0 ms B0 B H ow) (h1 : LAt K B H v a) (q : ∀ v B' H', Wd H0 ms B0 B' H' ow → Same B B' → enc K B' v (slL a lo hi) → Q v H') : rSlL K v lo hi H Q := by
  obtain ⟨p1, v1, rfl, a1, b1⟩ := h1
  refine ⟨p1, v1, rfl, SqL.of a1, newL W ?_ q⟩
  unfold cutV slL
  rw [b1.len]
  exact (b1.drop _).take _
theorem r_revL {a : List α} (W : Wd H0 ms B0 B H ow) (h1 : LAt K B H v a) (q : ∀ v B' H', Wd H0 ms B0 B' H' ow → Same B B' → enc K B' v a.reverse → Q v H') : rRevL K v H Q := by
  obtain ⟨p1, v1, rfl, a1, b1⟩ := h1
  exact ⟨p1, v1, rfl, SqL.of a1, newL W b1.rev q⟩
def rListL (K : KF) : List V → Hp → VK → Prop := fun xs H Q => ∃ p ys, xs = [.ref p] ∧ (SqL K H p ys ∨ SqT K H p ys) ∧ ∀ l, H l = none → Q (.ref l) (upd H l (.lst ys))
theorem call_listL {X : Cx} : CallR X (.type "list") (rListL X.K) := call_list_of
theorem r_listL {a : List α} (W : Wd H0 ms B0 B H ow) (h1 : LAt K B H v a) (q : ∀ v B' H', Wd H0 ms B0 B' H' ow → Same B B' → enc K B' v a → Q v H') : rListL K [v] H Q := by
  obtain ⟨p1, v1, rfl, a1, b1⟩ := h1
  exact ⟨p1, v1, rfl, .inl (SqL.of a1), newL W b1 q⟩
theorem r_listLO {a : List α} (W : Wd H0 ms B0 B H ow) (h1 : LAt K B H v a) (q : ∀ p vs H', Wd H0 ms B0 B H' ((p, .lst vs) :: ow) → EncL K B vs a → Q (.ref p) H') : rListL K [v] H Q := by
  obtain ⟨p1, v1, rfl, a1, b1⟩ := h1
  exact ⟨p1, v1, rfl, .inl (SqL.of a1), newLO W b1 q⟩
/-! tuples -/
section
variable {β γ δ ε : Type} [Enc β] [Enc γ] [Enc δ] [Enc ε] {x1 x2 x3 x4 x5 : V} {a1 : α} {a2 : β} {a3 : γ} {a4 : δ} {a5 : ε}
theorem r_tup2 (W : Wd H0 ms B0 B H ow) (h1 : enc K B x1 a1) (h2 : enc K B x2 a2) (q : ∀ v B' H', Wd H0 ms B0 B' H' ow → Same B B' → enc K B' v (T2.mk a1 a2) → Q v H') : nT Q [x1, x2] H := ⟨by show 2 ≤ sizeLine; decide, fun p hp => by
  obtain ⟨B', W', s, h⟩ := W.new (o := .tup [x1, x2]) hp
  exact q _ B' _ W' s ⟨p, _, _, rfl, SqT.of h, Enc.mono s h1, Enc.mono s h2⟩⟩
theorem r_tup3 (W : Wd H0 ms B0 B H ow) (h1 : enc K B x1 a1) (h2 : enc K B x2 a2) (h3 : enc K B x3 a3) (q : ∀ v B' H', Wd H0 ms B0 B' H' ow → Same B B' → enc K B' v (T3.mk a1 a2 a3) → Q v H') : nT Q [x1, x2, x3] H := ⟨by show 3 ≤ sizeLine; decide, fun p hp => by
  obtain ⟨B', W', s, h⟩ := W.new (o := .tup [x1, x2, x3]) hp
  exact q _ B' _ W' s ⟨p, _, _, _, rfl, SqT.of h, Enc.mono s h1, Enc.mono s h2, Enc.mono s h3⟩⟩
theorem r_tup5 (W : Wd H0 ms B0 B H ow) (h1 : enc K B x1 a1) (h2 : enc K B x2 a2) (h3 : enc K B x3 a3) (h4 : enc K B x4 a4) (h5 : enc K B x5 a5) (q : ∀ v B' H', Wd H0 ms B0 B' H' ow → Same B B' → enc K B' v (T5.mk a1 a2 a3 a4 a5) → Q v H') : nT Q [x1, x2, x3, x4, x5] H := ⟨by show 5 ≤ sizeLine; decide, fun p hp => by
  obtain ⟨B', W', s, h⟩ := W.new (o := .tup [x1, x2, x3, x4, x5]) hp
  exact q _ B' _ W' s ⟨p, _, _, _, _, _, rfl, SqT.of h, Enc.mono s h1, Enc.mono s h2, Enc.mono s h3, Enc.mono s h4, Enc.mono s h5⟩⟩
end
/-! append, pop -/
def appL {β : Type} (l : List β) (x : β) : Option (List β) := if l.length < sizeLine then some (l ++ [x]) else none
theorem appL_enc {l z : List α} {x : α} {vs : List V} (h : appL l x = some z) (e : EncL K B vs l) (ex : enc K B v x) : EncL K B (vs ++ [v]) z := by
  unfold appL at h
  split at h
  · cases Option.some.inj h
    exact e.app (.cons ex .nil)
  · cases h
theorem r_appL {a : Addr} {l z : List α} {x : α} {vs : List V} (ha : H a = some (.lst vs)) (e : EncL K B vs l) (h : appL l x = some z) (q : Q .non (upd H a (.lst (vs ++ [v])))) : rAppend (.ref a) [v] H Q := by
  unfold appL at h
  split at h
  · rename_i hl
    exact ⟨a, vs, v, rfl, rfl, ha, by rw [e.len]; exact hl, q⟩
  · cases h
def popL {β : Type} (l : List β) (i : Int) : Option (β × List β) := if -(2 ^ 63) ≤ i ∧ i < 2 ^ 63 then (seqIndex? i l.length).bind fun k => (l[k]?).map fun x => (x, l.eraseIdx k) else none
theorem r_popL {a : Addr} {l z : List α} {x : α} {i : Int} {vs : List V} (ha : H a = some (.lst vs)) (e : EncL K B vs l) (h : popL l i = some (x, z)) (q : ∀ w vs', enc K B w x → EncL K B vs' z → Q w (upd H a (.lst vs'))) : rPopAt (.ref a) [.int i] H Q := by
  unfold popL at h
  split at h
  · rename_i hc
    obtain ⟨k, hk, h2⟩ := Option.bind_eq_some_iff.mp h
    obtain ⟨y, hy, h3⟩ := Option.map_eq_some_iff.mp h2
    cases h3
    obtain ⟨w, hw, ew⟩ := e.get hy
    exact ⟨a, vs, i, k, w, rfl, rfl, ha, hc.1, hc.2, by rw [e.len]; exact hk, hw, q w _ ew (e.erase k)⟩
  · cases h
end
/-! range -/
def rngI (j : Int) : Option Unit := if -(2 ^ 62) ≤ j ∧ j < 2 ^ 62 then some () else none
theorem rngI_lo {j : Int} {u : Unit} (h : rngI j = some u) : -(2 ^ 62) ≤ j := by
  unfold rngI at h
  split at h
  · rename_i hc; exact hc.1
  · cases h
theorem rngI_hi {j : Int} {u : Unit} (h : rngI j = some u) : j < 2 ^ 62 := by
  unfold rngI at h
  split at h
  · rename_i hc; exact hc.2
  · cases h
section
variable {H0 B0 B H : Hp} {ms : List Addr} {ow : List (Addr × HO)} {a : Addr} {o : HO}
theorem Wd.mine0 (W : Wd H0 ms B0 B H ow) (i : Nat) (h : ow[i]? = some (a, o)) (hn : a ∉ ms) : H0 a = none := (W.mine _ (List.mem_of_getElem? h)).resolve_right hn
theorem Wd.drop0 (W : Wd H0 ms B0 B H ((a, o) :: ow)) (hn : a ∉ ms) : Wd H0 ms B0 B H ow := by
  have nd := W.nd
  rw [List.map_cons, List.nodup_cons] at nd
  refine ⟨W.b0, W.sub, W.keep, fun q hq => W.at_ q (List.mem_cons_of_mem _ hq), fun q hq => W.nB q (List.mem_cons_of_mem _ hq), fun q hq => W.mine q (List.mem_cons_of_mem _ hq), nd.2, W.prov, fun c hc => ?_, W.mh⟩
  obtain ⟨oc, h⟩ := W.mo c hc
  rcases List.mem_cons.mp h with e | e
  · have ec : c = a := congrArg Prod.fst e
    exact absurd (ec ▸ hc) hn
  · exact ⟨oc, e⟩
theorem perm_erase {α : Type} : ∀ {l : List α} {i : Nat} {x : α}, l[i]? = some x → l.Perm (x :: l.eraseIdx i)
  | [], i, x, h => by simp at h
  | y :: l, 0, x, h => by
    cases Option.some.inj h
    exact List.Perm.refl _
  | y :: l, i + 1, x, h => ((perm_erase (l := l) (i := i) (by simpa using h)).cons y).trans (List.Perm.swap x y _)
theorem Wd.dropAt (W : Wd H0 ms B0 B H ow) (i : Nat) (h : ow[i]? = some (a, o)) (hn : a ∉ ms) : Wd H0 ms B0 B H (ow.eraseIdx i) := (W.perm (perm_erase h)).drop0 hn
theorem Wd.neq {b : Addr} {o' : HO} (W : Wd H0 ms B0 B H ow) (i j : Nat) (h : ow[i]? = some (a, o)) (h' : ow[j]? = some (b, o')) (hij : i ≠ j) : a ≠ b := fun e => own_ne W.nd h' h hij e
/-- an object of one's own is none of the caller's -/
theorem Wd.notms (W : Wd H0 ms B0 B H ow) (hn : H0 a = none) : a ∉ ms := fun h => by
  obtain ⟨o, e⟩ := W.mh a h
  rw [hn] at e
  cases e
end
end Sg
/-! Sg4: further rules for texts -/
namespace Sg
open Enc (enc)
open ToD (toD)
open PySem PySem.Spec PyProof.Rows L2
section
variable {X : Cx} {H : Hp} {Q : VK}
/-! s * n -/
def rRepS : R2 := fun x y H Q => ∃ (z : Str) (n : Int), x = .str z ∧ y = .int n ∧ -(2 ^ 63) ≤ n ∧ n < 2 ^ 63 ∧ z.length * n.toNat ≤ sizeLine ∧ Q (.str ⟨(List.replicate n.toNat z.cps.toList).flatten.toArray⟩) H
theorem fold_app (l : List (Array Nat)) : ∀ acc : Array Nat, (l.foldl (· ++ ·) acc).toList = acc.toList ++ (l.map Array.toList).flatten := by
  induction l with
  | nil => intro acc; simp
  | cons a l ih => intro acc; rw [List.foldl_cons, ih]; simp
theorem op_repS : OpR X (binaryOp .Mult) rRepS := by
  intro pins s σ H x y v u Q I rx ry h
  obtain ⟨z, n, rfl, rfl, h1, h2, h3, q⟩ := h
  obtain ⟨t, rfl⟩ := rx
  obtain ⟨t', rfl⟩ := ry
  have hl : ∀ k, k ≤ sizeLine → Builtin.Str.tooLong k = false := fun k hk => by
    unfold Builtin.Str.tooLong
    simp
    omega
  refine PySem.P.mul_str (by
      have e1 : decide (n < -(2 ^ 63 : Int)) = false := decide_eq_false (by omega)
      have e2 : decide (n ≥ 2 ^ 63) = false := decide_eq_false (by omega)
      rw [e1, e2] <;> rfl) (fun a b c => ?_) (fun a b => hl _ h3) ?_
  · have hs := line63
    have ha : 1 ≤ n := by omega
    have hle : (z.length : Int) * n ≤ 2 ^ 63 - 1 := by
      have : ((z.length * n.toNat : Nat) : Int) = (z.length : Int) * n := by
        rw [Int.natCast_mul]
        congr 1
        omega
      omega
    have := Int.le_ediv_of_mul_le (by omega : 0 < n) hle
    omega
  · split
    · rename_i hn
      have e0 : n.toNat = 0 := by omega
      rw [e0] at q
      exact ⟨by decide, .str _, H, I.tok _, ⟨_, rfl⟩, q⟩
    · rename_i hn
      split
      · rename_i hb
        have e : (⟨(List.replicate n.toNat z.cps.toList).flatten.toArray⟩ : Str) = z := by
          rcases Bool.or_eq_true_iff.mp hb with hb | hb
          · have : n = 1 := by simpa using hb
            subst this
            simp
          · have hz : z.length = 0 := by simpa using hb
            have hz2 : z.cps = #[] := by
              have : z.cps.size = 0 := hz
              exact Array.eq_empty_of_size_eq_zero this
            obtain ⟨cps⟩ := z
            dsimp only at hz2
            subst hz2
            simp
        rw [e] at q
        exact ⟨.str z, H, I, ⟨t, rfl⟩, q⟩
      · have e : (⟨(List.replicate n.toNat z.cps).foldl (· ++ ·) #[]⟩ : Str) = ⟨(List.replicate n.toNat z.cps.toList).flatten.toArray⟩ := by
          congr 1
          apply Array.ext'
          rw [fold_app]
          simp
        rw [e]
        refine ⟨?_, .str _, H, I.tok _, ⟨_, rfl⟩, q⟩
        have hlen : ∀ k, ((List.replicate k z.cps.toList).flatten).length = k * z.cps.toList.length := fun k => by
          induction k with
          | zero => simp
          | succ k ih => rw [List.replicate_succ, List.flatten_cons, List.length_append, ih, Nat.succ_mul]; omega
        show ((List.replicate n.toNat z.cps.toList).flatten.toArray).size ≤ sizeLine
        rw [List.size_toArray, hlen, Array.length_toList, Nat.mul_comm]
        exact h3
def repS (a : Tx) (n : Int) : Option Tx := if -(2 ^ 63) ≤ n ∧ n < 2 ^ 63 ∧ a.length * n.toNat ≤ sizeLine then some (List.replicate n.toNat a).flatten else none
theorem r_repS {a z : Tx} {n : Int} (h : repS a n = some z) (q : Q (.str (mkS z)) H) : rRepS (.str (mkS a)) (.int n) H Q := by
  unfold repS at h
  split at h
  · rename_i hc
    cases Option.some.inj h
    exact ⟨_, n, rfl, rfl, hc.1, hc.2.1, by rw [mkS_len]; exact hc.2.2, by rw [mkS_list]; exact q⟩
  · cases h
/-! s[::-1] -/
def rRevS : V → Hp → VK → Prop := fun x H Q => ∃ z : Str, x = .str z ∧ z.length ≤ sizeLine ∧ Q (.str ⟨z.cps.toList.reverse.toArray⟩) H
def tRevS (te : TE) : TE := fun σ H Q => te σ H fun x H1 => rRevS x H1 Q
theorem rev_by (z : Str) (u : Tok) : Txt.sliceBy z none none (-1, u) = ⟨z.cps.toList.reverse.toArray⟩ := by
  have h := step_rev_list z u
  have e : z.cps.toList.reverse = (List.range z.length).map fun k => z.cps.getD (z.length - 1 - k) 0 := by
    apply List.ext_getElem?
    intro i
    by_cases hi : i < z.length
    · have hi' : i < z.cps.toList.reverse.length := by simpa [Str.length] using hi
      rw [List.getElem?_eq_getElem hi', List.getElem_reverse]
      simp only [List.getElem?_map, List.getElem?_range hi, Option.map_some]
      have hs : z.cps.size = z.length := rfl
      simp [Array.getD, Str.length] 
      intro hc
      omega
    · have hz : z.cps.toList.length = z.length := rfl
      rw [List.getElem?_eq_none (by simpa [hz] using hi), List.getElem?_eq_none (by simpa using hi)]
  rw [e, ← h]
theorem pe_revS {e : Expr} {te : TE} {k : Nat} {p1 p2 p3 pos : Pos} (he : PE X e te) : PE X (.Subscript e (.Slice none none (some (.UnaryOp .USub (.Constant (.int 1) k p1) p2)) p3) pos) (tRevS te) := by
  refine ⟨fun pins s σ H Q I h => ?_⟩
  refine Subscript_ (thn (he.run pins s σ H _ I h) fun v s1 ⟨x, H1, I1, r1, z, ez, hz, q⟩ => ?_)
  subst ez
  obtain ⟨t, rfl⟩ := r1
  have hst : PO X (some (.UnaryOp .USub (.Constant (.int 1) k p1) p2)) (tPart (tUn (rU fun i => .int (-i)) (tC (.int 1)))) := po_some (pe_un un_neg pe_int)
  refine wpAny_Slice (thn (po_none.run pins s1 σ H1 (fun o H2 => o = none ∧ H2 = H1) I1 ⟨rfl, rfl⟩) fun vl s2 ⟨l, H2, I2, pl, el, e2⟩ => ?_)
  subst el e2
  refine thn (po_none.run pins s2 σ H2 (fun o H3 => o = none ∧ H3 = H2) I2 ⟨rfl, rfl⟩) fun vu s3 ⟨u, H3, I3, pu, eu, e3⟩ => ?_
  subst eu e3
  refine thn (hst.run pins s3 σ H3 (fun o H4 => o = some (-1) ∧ H4 = H3) I3 ⟨1, rfl, -1, rfl, rfl, rfl⟩) fun vs s4 ⟨o, H4, I4, ps, eo, e4⟩ => ?_
  subst eo e4
  have I5 : Inv X pins σ H4 { s4 with heap := s4.heap.push { cls := .type "slice", data := .fields #[vl, vu, vs] } } := I4.kept (t' := s4.toks) fun b ob q => Heap.get?_push_of_some _ q
  obtain ⟨l, rfl, el⟩ := IsPart.raw pl
  obtain ⟨u, rfl, eu⟩ := IsPart.raw pu
  obtain ⟨st, rfl, est⟩ := IsPart.raw ps
  cases l with
  | some l => cases el
  | none =>
    cases u with
    | some u => cases eu
    | none =>
      cases st with
      | none => cases est
      | some st =>
        obtain ⟨k1, uk⟩ := st
        have ek : k1 = -1 := Option.some.inj est
        subst ek
        refine tail_any (ops := [.str z t, .ref s4.heap.objs.size]) (typeIs_str _ _ _) F.slot_str_getitem.lookup ?_ (by with_unfolding_all rfl)
        refine wpAny_getItem_str_slice (l := none) (u := none) (st := some (-1, uk)) ⟨_, Heap.get?_push_size _ rfl, rfl, rfl⟩ rfl ?_
        refine post_val_or_str ?_
        have hby : Txt.sliceBy z none none (-1, uk) = ⟨z.cps.toList.reverse.toArray⟩ := rev_by z uk
        unfold Txt.sliceBy at hby
        rw [hby]
        refine ⟨?_, fun t' k' => ⟨.str _, H4, I5.tok k', ⟨t', rfl⟩, q⟩⟩
        show (z.cps.toList.reverse.toArray).size ≤ sizeLine
        simpa [Str.length] using hz
def revS (a : Tx) : Option Tx := if a.length ≤ sizeLine then some a.reverse else none
theorem grvS {σ : St} {te : TE} (h : te σ H fun x H1 => rRevS x H1 Q) : tRevS te σ H Q := h
theorem r_revS {a z : Tx} (h : revS a = some z) (q : Q (.str (mkS z)) H) : rRevS (.str (mkS a)) H Q := by
  unfold revS at h
  split at h
  · rename_i hc
    cases Option.some.inj h
    exact ⟨_, rfl, by rw [mkS_len]; exact hc, by rw [mkS_list]; exact q⟩
  · cases h
/-! list(s) -/
def rListS : List V → Hp → VK → Prop := fun xs H Q => ∃ z : Str, xs = [.str z] ∧ z.length ≤ sizeLine ∧ ∀ l, H l = none → Q (.ref l) (upd H l (.lst (z.cps.toList.map fun c => V.str ⟨#[c]⟩)))
theorem call_listS (hh : X.A.handled = none) : CallR X (.type "list") rListS := by
  intro pins s σ H xs us Q I r h
  obtain ⟨z, rfl, hz, q⟩ := h
  obtain ⟨u, rfl, t, rfl⟩ := vals1 r
  refine PySem.call_list_str hh z t (fun h' tk acc c' hk hg hi => ?_) hz
  have J := I.laid (t' := tk) (h' := h') (a := s.heap.objs.size) (o := .lst (z.cps.toList.map fun c => V.str ⟨#[c]⟩)) hk (Nat.le_refl _) ⟨by simpa [Str.length] using hz, acc.toList, c', ?_, by simpa using hg⟩
  · exact ⟨.ref _, _, J, rfl, q _ (I.hok.fresh (Nat.le_refl _))⟩
  · obtain ⟨hs, hv⟩ := hi
    have key : ∀ (l : List Nat) (us : List Value), l.length = us.length → (∀ (i : Nat) v c, us[i]? = some v → l[i]? = some c → ∃ u, v = Value.str ⟨#[c]⟩ u) → Vals (l.map fun c => V.str ⟨#[c]⟩) us := by
      intro l
      induction l with
      | nil =>
        intro us hl _
        cases us with
        | nil => exact .nil
        | cons _ _ => cases hl
      | cons c l ih =>
        intro us hl hp
        cases us with
        | nil => cases hl
        | cons v us =>
          refine .cons ?_ (ih us (by simpa using hl) fun i v' c' h1 h2 => hp (i + 1) v' c' (by simpa using h1) (by simpa using h2))
          exact hp 0 v c rfl rfl
    refine key _ _ (by simpa [Str.length] using hs.symm) fun i v c h1 h2 => ?_
    obtain ⟨c', u, e1, e2⟩ := hv i v (by simpa using h1)
    have : c' = c := by
      have h3 : z.cps[i]? = some c := by simpa using h2
      exact Option.some.inj (e1.symm.trans h3)
    subst this
    exact ⟨u, e2⟩
def lstS (a : Tx) : Option (List Ch) := if a.length ≤ sizeLine then some (a.map Ch.mk) else none
theorem encL_ch {K : KF} {B : Hp} : ∀ a : Tx, EncL K B (a.map fun c => V.str ⟨#[c]⟩) (a.map Ch.mk)
  | [] => .nil
  | c :: a => .cons rfl (encL_ch a)
section
variable {K : KF} {B H0 B0 : Hp} {ms : List Addr} {ow : List (Addr × HO)}
theorem r_listS {a : Tx} {l : List Ch} (W : Wd H0 ms B0 B H ow) (h : lstS a = some l) (q : ∀ v B' H', Wd H0 ms B0 B' H' ow → Same B B' → enc K B' v l → Q v H') : rListS [.str (mkS a)] H Q := by
  unfold lstS at h
  split at h
  · rename_i hc
    cases Option.some.inj h
    exact ⟨_, rfl, by rw [mkS_len]; exact hc, by rw [mkS_list]; exact newL W (encL_ch a) q⟩
  · cases h
theorem r_listSO {a : Tx} {l : List Ch} (W : Wd H0 ms B0 B H ow) (h : lstS a = some l) (q : ∀ p vs H', Wd H0 ms B0 B H' ((p, .lst vs) :: ow) → EncL K B vs l → Q (.ref p) H') : rListS [.str (mkS a)] H Q := by
  unfold lstS at h
  split at h
  · rename_i hc
    cases Option.some.inj h
    exact ⟨_, rfl, by rw [mkS_len]; exact hc, by rw [mkS_list]; exact newLO W (encL_ch a) q⟩
  · cases h
/-! sep.join(l) -/
def rJoinS (K : KF) : V → List V → Hp → VK → Prop := fun x xs H Q => ∃ a p, ∃ ys : List Str, x = .str a ∧ xs = [.ref p] ∧ (SqL K H p (ys.map V.str) ∨ SqT K H p (ys.map V.str)) ∧ (ys.map (·.length)).sum + ys.length * a.length ≤ 16777216 ∧ Q (.str (Txt.join a ys)) H
theorem mt_joinS : MtR X "str.join" (rJoinS X.K) := mt_join
/-- the pieces with the sign between -/
def glue (s : Tx) : List Tx → Tx
  | [] => []
  | [x] => x
  | x :: y :: r => x ++ s ++ glue s (y :: r)
theorem join_glue (s : Tx) (l : List Tx) : Txt.join (mkS s) (l.map mkS) = mkS (glue s l) := by
  show PySem.Builtin.Str.glued (mkS s) (l.map mkS) = _
  rw [StrLaws.glued_eq_join]
  induction l with
  | nil => rfl
  | cons x r ih =>
    cases r with
    | nil => rfl
    | cons y r =>
      show mkS x ++ mkS s ++ Str.join (mkS s) (mkS y :: r.map mkS) = mkS (x ++ s ++ glue s (y :: r))
      rw [mkS_app, show Str.join (mkS s) (mkS y :: r.map mkS) = mkS (glue s (y :: r)) from ih, mkS_app]
def joinS (s : Tx) (l : List Tx) : Option Tx := if (l.map List.length).sum + l.length * s.length ≤ 16777216 then some (glue s l) else none
theorem encL_strs {vs : List V} {l : List Tx} (h : EncL K B vs l) : vs = (l.map mkS).map V.str := by
  induction h with
  | nil => rfl
  | cons h _ ih => rw [ih]; cases h; rfl
theorem encL_chs {vs : List V} {l : List Ch} (h : EncL K B vs l) : vs = ((l.map Ch.t).map mkS).map V.str := by
  induction h with
  | nil => rfl
  | cons h _ ih => rw [ih]; cases h; rfl
theorem r_joinA {s : Tx} {l : List Tx} {z : Tx} {a : Addr} (ha : H a = some (.lst ((l.map mkS).map V.str))) (e : joinS s l = some z) (q : Q (.str (mkS z)) H) : rJoinS K (.str (mkS s)) [.ref a] H Q := by
  unfold joinS at e
  split at e
  · rename_i hc
    cases Option.some.inj e
    refine ⟨_, a, l.map mkS, rfl, rfl, .inl (SqL.of ha), ?_, by rw [join_glue]; exact q⟩
    rw [List.map_map, List.length_map, mkS_len]
    have : (fun x => x.length) ∘ mkS = (List.length : Tx → Nat) := funext fun x => mkS_len x
    rw [this]
    exact hc
  · cases e
theorem r_joinS {s : Tx} {v : V} {l : List Tx} {z : Tx} (h : LAt K B H v l) (e : joinS s l = some z) (q : Q (.str (mkS z)) H) : rJoinS K (.str (mkS s)) [v] H Q := by
  obtain ⟨a, vs, rfl, ha, he⟩ := h
  rw [encL_strs he] at ha
  exact r_joinA ha e q
theorem r_joinC {s : Tx} {v : V} {l : List Ch} {z : Tx} (h : LAt K B H v l) (e : joinS s (l.map Ch.t) = some z) (q : Q (.str (mkS z)) H) : rJoinS K (.str (mkS s)) [v] H Q := by
  obtain ⟨a, vs, rfl, ha, he⟩ := h
  rw [encL_chs he] at ha
  exact r_joinA ha e q
end
end
end Sg
/-! Sg5: enumerate of a text -/
namespace Sg
open Enc (enc)
open ToD (toD)
open PySem PySem.Spec PyProof.Rows L2
/-- each sign in a new pair with its place -/
def Ies (x : Str) : It := ⟨fun i _ => i < x.cps.size, fun i H v H' => ∃ T c, v = .ref T ∧ H T = none ∧ H' = upd H T (.tup [.int (i : Nat), .str ⟨#[c]⟩]) ∧ x.cps[i]? = some c, fun i _ => i = x.cps.size⟩
theorem turn_es {P : Program} {w : World} {K : KF} {elts : List Expr} {kk : Nat} {tpos : Pos} (x : Str) (t : Tok) (e it : Addr) :
    Turn P w K (.Tuple elts kk tpos) (Ies x) [e, it] e (fun i h => (∃ old, IsEnum h e it ((i : Nat) : Int) old) ∧ h.IsStrIter it (strIterType x) x t i ∧ e ≠ it) where
  mem := by simp
  obj := fun i h st b hb => by
    obtain ⟨⟨old, he⟩, ⟨o, ho, hc, hd⟩, _⟩ := st
    have e' : b = e ∨ b = it := by simpa using hb
    rcases e' with z | z
    · rw [z]; exact ⟨_, he, fun v q => nomatch q⟩
    · rw [z]; exact ⟨o, ho, fun v q => by rw [hd] at q; cases q⟩
  keep := fun i h h' st k => let ⟨⟨old, he⟩, ⟨o, ho, r⟩, hne⟩ := st; ⟨⟨old, k e (by simp) _ he⟩, ⟨o, k it (by simp) o ho, r⟩, hne⟩
  item := by
    intro X hP hw hK hc i pins s σ H E I hf st hg
    subst hP hw hK
    obtain ⟨⟨old, he⟩, hit, hne⟩ := st
    have hel : e < s.heap.objs.size := Heap.lt_size he
    have hil : it < s.heap.objs.size := by obtain ⟨_, q, _⟩ := hit; exact Heap.lt_size q
    refine wpAny_pyNext_enum_itemD (Draws.text (A := X.A.in1) (I.ok.hd hc) it x t) he hit hg hne (by simpa using hne) fun u h' tk hu ho hit' hT hsz hk => ?_
    obtain ⟨c, u1, hcx, rfl⟩ := hu
    refine ⟨_, rfl, wpAny_letOwnedTupleGo_enum (s := { s with heap := h', toks := tk + 1 }) ho fun h'' he' sb => ?_⟩
    have hT2 : h''.get? s.heap.objs.size = some { cls := .type "tuple", data := .seq #[.int i tk, .str ⟨#[c]⟩ u1] } := (sb.2 _ (Nat.ne_of_gt hel)).trans hT
    have new : ObjOk X.prog X.w (upd H s.heap.objs.size (.tup [.int (i : Nat), .str ⟨#[c]⟩])) h'' s.heap.objs.size (.tup [.int (i : Nat), .str ⟨#[c]⟩]) :=
      ⟨by show 2 ≤ sizeLine; decide, [.int i tk, .str ⟨#[c]⟩ u1], .cons ⟨_, rfl⟩ (.cons ⟨_, rfl⟩ .nil), ⟨_, hT2, rfl, _, rfl⟩⟩
    have I1 : Inv X pins σ (upd H s.heap.objs.size (.tup [.int (i : Nat), .str ⟨#[c]⟩])) { s with heap := h'', toks := tk + 1 } :=
      I.turnedNew (ch := [e, it]) (fun b ob hb q => (sb.2 b (fun z => hb (by simp [z]))).trans (hk b ob (fun z => hb (by simp [z])) (fun z => hb (by simp [z])) q)) hf (Nat.le_refl _) new
    obtain ⟨oi, hoi, ri⟩ := hit'
    refine ⟨.ref s.heap.objs.size, _, I1, rfl, ⟨_, c, rfl, I.hok.fresh (Nat.le_refl _), rfl, hcx⟩, ⟨⟨.str ⟨#[c]⟩ u1, ?_⟩, ⟨oi, (sb.2 it (Ne.symm hne)).trans hoi, ri⟩, hne⟩, fun b hb => ?_⟩
    · have e1 : ((i + 1 : Nat) : Int) = (i : Int) + 1 := by omega
      rw [e1]; exact he'
    · have hb' : b < s.heap.objs.size := by
        have e' : b = e ∨ b = it := by simpa using hb
        rcases e' with z | z
        · rw [z]; exact hel
        · rw [z]; exact hil
      rw [upd_ne (Nat.ne_of_lt hb')]
      exact (hf b hb).1
  done := by
    intro X hP hw hK hc i pins s σ H E I hf st hg
    subst hP hw hK
    obtain ⟨⟨old, he⟩, hit, hne⟩ := st
    obtain ⟨f0, f1, f2, f3, f4, f5⟩ := hf it (by simp)
    have hi : i = x.cps.size := hg
    subst hi
    exact wpAny_pyNext_enum_endD (Draws.text (A := X.A.in1) (I.ok.hd hc) it x t) he hit fun h' eb => ⟨rfl, I.turned (t' := s.toks) (fun b o hb q => eb b o hb q) f0 f1 f3 f4 f5⟩
  self := fun A i s Q E st h => let ⟨⟨_, he⟩, _⟩ := st; wpAny_pyIter_enum he h
def iEnumS (ta : TA) : TI := fun σ H R => ta σ H fun vs H1 => ∃ x, vs = [.str x] ∧ R (Ies x) H1
theorem pi_enumS {X : Cx} {e : Expr} {ta : TA} {p pos tpos : Pos} {elts : List Expr} {kk : Nat} (hg : Gl X "enumerate") (hm : X.mg "enumerate" = none) (ha : PA X [e] ta) (hs : starEach [e] X.env = [(false, eval e X.env)] := by rfl) :
    PI X (.Tuple elts kk tpos) (.Call (.Name "enumerate" p) [e] [] pos) (iEnumS ta) := by
  refine ⟨fun pins s σ H R I h => ?_⟩
  refine Call_ (ld_blt I hg hm boot_enumerate (PyProof.Rows.callWith_type1 (thn (ha.run pos pins s σ H _ I h) fun us s1 ⟨vs, H1, I1, r1, x, ex, q⟩ => ?_) hs rfl))
  subst ex
  obtain ⟨u, rfl, t, rfl⟩ := vals1 r1
  refine call_enumerate_str fun h' he hit hsz hk => wpAny_pyIter_enum he ?_
  have I2 : Inv X pins σ H1 { s1 with heap := h' } := I1.kept (t' := s1.toks) hk
  refine ⟨s1.heap.objs.size + 1, [s1.heap.objs.size + 1, s1.heap.objs.size], _, _, H1, rfl, I2, turn_es x t (s1.heap.objs.size + 1) s1.heap.objs.size, ⟨⟨.none, he⟩, hit, Nat.succ_ne_self _⟩, fun b hb => ?_, q⟩
  have e' : b = s1.heap.objs.size + 1 ∨ b = s1.heap.objs.size := by simpa using hb
  have hle : s1.heap.objs.size ≤ b := by
    rcases e' with z | z
    · rw [z]; exact Nat.le_add_right _ _
    · rw [z]; exact Nat.le_refl _
  exact I1.fpOk hle (I1.hok.fresh hle)
theorem walk_es {z : Str} : Walk (Ies z) z.cps.size (fun _ => True) (fun i H v H' => ∃ T c, v = .ref T ∧ H T = none ∧ H' = upd H T (.tup [.int (i : Nat), .str ⟨#[c]⟩]) ∧ z.cps[i]? = some c) :=
  ⟨fun _ _ hi _ => hi, fun _ _ => rfl, fun _ _ _ _ _ _ y => y⟩
section
variable {σ : St} {H : Hp} {g : TG} {tb : TS} {D : Ends}
theorem gforES {ta : TA} (h : ta σ H fun vs H1 => ∃ x, vs = [.str x] ∧ FB (Ies x) g tb D σ H1) : tFor (iEnumS ta) g tb D σ H := h
/-- places and signs -/
def enumS (k : Int) : Tx → List (Int × Nat)
  | [] => []
  | c :: r => (k, c) :: enumS (k + 1) r
theorem enumS_get : ∀ (z : Tx) (k : Int) (i : Nat), (enumS k z)[i]? = (z[i]?).map fun c => (k + (i : Nat), c)
  | [], k, i => by simp [enumS]
  | c :: r, k, 0 => by simp [enumS]
  | c :: r, k, i + 1 => by
    have ih := enumS_get r (k + 1) i
    simp only [enumS, List.getElem?_cons_succ]
    rw [ih]
    congr 1
    funext c
    congr 1
    omega
theorem enumS_len (z : Tx) : ∀ k, (enumS k z).length = z.length := by
  induction z with
  | nil => intro k; rfl
  | cons c r ih => intro k; simp [enumS, ih]
/-- the pair is new, of no further use -/
theorem loopES {z : Tx} (P : List (Int × Nat) → St → Hp → Prop) (h0 : P (enumS 0 z) σ H)
    (hs : ∀ k c r σ H T, P ((k, c) :: r) σ H → H T = none → g (.ref T) σ (upd H T (.tup [.int k, .str (mkS [c])])) fun σ2 H2 => tb { D with nx := P r, ct := P r, bk := D.nx } σ2 H2)
    (hd : ∀ σ H, P [] σ H → D.nx σ H) : FB (Ies (mkS z)) g tb D σ H := by
  refine loopW walk_es (enumS 0 z) (by rw [enumS_len]; simp [mkS]) P h0 (fun _ _ _ _ => trivial) (fun i x r v σ H H' e ex h y => ?_) hd
  obtain ⟨T, c, rfl, hT, rfl, hc⟩ := y
  have hc' : z[i]? = some c := by simpa [mkS] using hc
  rw [enumS_get, hc'] at ex
  have ex2 := Option.some.inj ex
  subst ex2
  have h2 := hs _ _ r σ H T h hT
  rw [show (0 : Int) + (i : Nat) = (i : Nat) by omega] at h2
  exact h2
end
end Sg
/-! Sg6: errors raised and caught -/
namespace Sg
open Enc (enc)
open ToD (toD)
open PySem PySem.Spec PyProof.Rows L2
/-- what comes back, or the error's class and value -/
inductive Rs (α : Type) where
  | ok (x : α)
  | ex (c : String) (y : PyData)
def rbind {α β : Type} (o : Option (Rs α)) (f : α → Option (Rs β)) : Option (Rs β) := o.bind fun r => match r with
  | .ok x => f x
  | .ex c y => some (.ex c y)
theorem rob {α β : Type} {o : Option (Rs α)} {f : α → Option (Rs β)} {r : Rs β} (h : rbind o f = some r) : (∃ c y, o = some (.ex c y) ∧ r = .ex c y) ∨ ∃ x, o = some (.ok x) ∧ f x = some r := by
  unfold rbind at h
  obtain ⟨a, e, h⟩ := ob h
  cases a with
  | ok x => exact .inr ⟨x, e, h⟩
  | ex c y => exact .inl ⟨c, y, e, (Option.some.inj h).symm⟩
/-- a try: the errors go to g -/
def tbind {α β : Type} (o : Option (Rs α)) (g : String → PyData → Option β) (f : α → Option β) : Option β := o.bind fun r => match r with
  | .ok x => f x
  | .ex c y => g c y
theorem tob {α β : Type} {o : Option (Rs α)} {g : String → PyData → Option β} {f : α → Option β} {r : β} (h : tbind o g f = some r) : (∃ c y, o = some (.ex c y) ∧ g c y = some r) ∨ ∃ x, o = some (.ok x) ∧ f x = some r := by
  unfold tbind at h
  obtain ⟨a, e, h⟩ := ob h
  cases a with
  | ok x => exact .inr ⟨x, e, h⟩
  | ex c y => exact .inl ⟨c, y, e, h⟩
/-- on, or out of the def -/
inductive Ct (α β : Type) where
  | nx (s : α)
  | rt (r : β)
abbrev cbind {α β γ : Type} (o : Option (Ct α β)) (g : β → Option γ) (f : α → Option γ) : Option γ := o.bind fun c => match c with
  | .nx s => f s
  | .rt r => g r
def xbind {α β γ : Type} (o : Option (Rs α)) (f : α → Option (Ct γ (Rs β))) : Option (Ct γ (Rs β)) := o.bind fun r => match r with
  | .ok x => f x
  | .ex c y => some (.rt (.ex c y))
theorem xob {α β γ : Type} {o : Option (Rs α)} {f : α → Option (Ct γ (Rs β))} {r : Ct γ (Rs β)} (h : xbind o f = some r) : (∃ c y, o = some (.ex c y) ∧ some (Ct.rt (Rs.ex c y)) = some r) ∨ ∃ x, o = some (.ok x) ∧ f x = some r := by
  unfold xbind at h
  obtain ⟨a, e, h⟩ := ob h
  cases a with
  | ok x => exact .inr ⟨x, e, h⟩
  | ex c y => exact .inl ⟨c, y, e, h⟩
/-- is the error class s the class c, or under it -/
def subE (s c : String) : Bool := decide (s = c) || decide (c = "GrowsError")
/-- the module's error classes -/
structure Errs (P : Program) (K : KF) (mg : Str → Option Value) (errs : List String) where
  cl : String → Addr
  gi : ∀ s ∈ errs, GiC P K (cl s)
  gl : ∀ s ∈ errs, mg (Str.ofString s) = some (.ref (cl s))
  kit : ∀ s ∈ errs, ∀ c ∈ errs, PySem.W.kitOne K (.ref (cl s)) (.ref (cl c)) = some (subE s c)
  kve : ∀ s ∈ errs, PySem.W.kitOne K (.ref (cl s)) (.type "ValueError") = some true
  exm : ∀ s ∈ errs, ∀ c ∈ errs, PySem.W.exmOne K (.ref (cl s)) (.ref (cl c)) = some (subE s c)
  ec : ∀ s ∈ errs, ExcC K (cl s)
section
variable {σ : St} {H : Hp} {Q : VK} {K : KF} {B H0 B0 : Hp} {ms : List Addr} {ow : List (Addr × HO)} {te : TE} {D : Ends} {v : V}
def rGrows (C : Addr) (Q : XK) : VK := fun v H1 => ReprV v ∧ ∀ d, H1 d = none → Q (.ref C) (some d) (upd H1 d (.xd [("value", v)]))
theorem graise {C : Addr} {Q : XK} (h : te σ H (rGrows C Q)) : tGrows C te σ H Q := h
theorem r_raise {C : Addr} {Q : XK} (W : Wd H0 ms B0 B H ow) (hr : ReprV v) (q : ∀ d B' H', Wd H0 ms B0 B' H' ow → Same B B' → B' d = some (.xd [("value", v)]) → Q (.ref C) (some d) H') : rGrows C Q v H :=
  ⟨hr, fun d hd => by
    obtain ⟨B', W', s, h⟩ := W.new (o := .xd [("value", v)]) hd
    exact q d B' _ W' s h⟩
def rprS (a : Tx) : Option Unit := if (reprText (mkS a)).length ≤ sizeLine then some () else none
theorem rprS_ok {a : Tx} {u : Unit} (h : rprS a = some u) : ReprV (.str (mkS a)) := by
  unfold rprS at h
  split at h
  · rename_i hc
    exact .inl ⟨_, rfl, hc⟩
  · cases h
def rprI (i : Int) : Option Unit := if i.natAbs.log2 < 1920 then some () else none
theorem rprI_ok {i : Int} {u : Unit} (h : rprI i = some u) : ReprV (.int i) := by
  unfold rprI at h
  split at h
  · rename_i hc
    exact .inr ⟨_, rfl, hc⟩
  · cases h
/-! in the suite -/
def rIsX (K : KF) (cls : Value) (d : Option Addr) (a : Addr) : List V → Hp → VK → Prop := fun xs H Q => ∃ (C dx : Addr) (fs : List (Str × V)) (c : V) (cv : Value) (b : Bool),
  cls = .ref C ∧ d = some dx ∧ ExcC K C ∧ H dx = some (.xd fs) ∧ xs = [.ref a, c] ∧ (∀ u, RelV c u → u = cv) ∧ PySem.W.kitOne K (.ref C) cv = some b ∧ Q (.bl b) H
theorem call_isX {X : Cx} {a : Addr} {oe : Obj} {cls : Value} {d : Option Addr} {pn : List (Addr × Obj)} (hz : Zc cls d oe) (hf : ∃ vs, oe.data = .fields vs) : CallR (X.suite a ((a, oe) :: pn)) (.builtin "isinstance") (rIsX X.K cls d a) := by
  intro pins s σ H xs us Q I r h
  obtain ⟨C, dx, fs, c, cv, b, rfl, rfl, hC, hd, rfl, hcv, e, q⟩ := h
  exact call_isG hC hz hf pins s σ H _ us Q I r ⟨⟨fs, hd⟩, c, cv, b, rfl, hcv, e, q⟩
def rXf (K : KF) (cls : Value) (d : Option Addr) (a : Addr) (f : Str) : V → Hp → VK → Prop := fun x H1 Q => ∃ (C dd : Addr) (fs : List (Str × V)) (v : V), x = .ref a ∧ cls = .ref C ∧ XfC K C ∧ PySem.W.findIn K (.ref C) f = some none ∧ d = some dd ∧ H1 dd = some (.xd fs) ∧ fs.lookup f = some v ∧ Q v H1
def tXfG (K : KF) (a : Addr) (cls : Value) (d : Option Addr) (f : Str) (te : TE) : TE := fun σ H Q => te σ H fun x H1 => rXf K cls d a f x H1 Q
theorem pe_xfG {X : Cx} {a : Addr} {oe : Obj} {cls : Value} {d : Option Addr} {pn : List (Addr × Obj)} {e : Expr} {te : TE} {pos : Pos} {n : Str}
    (hz : Zc cls d oe) (hf : ∃ vs, oe.data = .fields vs) (he : PE (X.suite a ((a, oe) :: pn)) e te) (hb : attributeBase e n X.env (eval e X.env) = eval e X.env := by rfl) :
    PE (X.suite a ((a, oe) :: pn)) (.Attribute e n pos) (tXfG X.K a cls d n te) := by
  refine ⟨fun pins s σ H Q I h => ?_⟩
  refine attr_of hb (thn (he.run pins s σ H _ I h) fun u s1 hh => ?_)
  obtain ⟨x, H1, I1, rx, C, dd, fs, v, rfl, rfl, T, hno, rfl, ea, l, q⟩ := hh
  obtain rfl : u = Value.ref a := rx
  obtain ⟨ha, _⟩ := I1.pin (a, oe) (List.mem_append_left _ List.mem_cons_self)
  obtain ⟨vs, hd⟩ := hf
  have hx : ObjOk X.prog X.w H1 s1.heap dd (.xd fs) := I1.hok dd _ ea
  obtain ⟨mA, hns, hr⟩ := hx
  obtain ⟨od, ho, hl⟩ := lookIn_ns hns
  obtain ⟨u, hu, ru⟩ := RelO.some_of (v := v) (o := mA n) (by rw [← l]; exact hr n)
  have J : PySem.W.InstAt s1.heap a oe C (some od) := ⟨ha, hz.1, by unfold PySem.W.notCls; rw [hd] <;> rfl, by rw [hz.2]; exact ho⟩
  exact HandSPX.exc_get I1.kIn J T.ga T.gg T.exC (PySem.W.findObj_own T.hdC hno rfl (by rw [hl, hu])) (handed_of ru) ⟨v, H1, I1.tok _, ru, q⟩
theorem gXf {a : Addr} {cls : Value} {d : Option Addr} {f : Str} (h : te σ H fun x H1 => rXf K cls d a f x H1 Q) : tXfG K a cls d f te σ H Q := h
section
variable {P : Program} {mg : Str → Option Value} {errs : List String} (E : Errs P K mg errs)
include E
theorem Errs.xf {s : String} (h : s ∈ errs) : XfC K (E.cl s) := ⟨(E.ec s h).hg, (E.ec s h).hk, (E.ec s h).hs, (E.ec s h).hd⟩
theorem r_isE {s c : String} {a d : Addr} {fs : List (Str × V)} (hs : s ∈ errs) (hc : c ∈ errs) (hd : H d = some (.xd fs)) (q : Q (.bl (subE s c)) H) : rIsX K (.ref (E.cl s)) (some d) a [.ref a, .ref (E.cl c)] H Q :=
  ⟨_, d, fs, _, .ref (E.cl c), _, rfl, rfl, E.ec s hs, hd, rfl, fun u h => h, E.kit s hs c hc, q⟩
theorem r_isVE {s : String} {a d : Addr} {fs : List (Str × V)} (hs : s ∈ errs) (hd : H d = some (.xd fs)) (q : Q (.bl true) H) : rIsX K (.ref (E.cl s)) (some d) a [.ref a, .ty "ValueError"] H Q :=
  ⟨_, d, fs, _, .type "ValueError", _, rfl, rfl, E.ec s hs, hd, rfl, fun u h => h, E.kve s hs, q⟩
theorem r_xfv {s : String} {a d : Addr} {w : V} (hs : s ∈ errs) (hd : H d = some (.xd [("value", w)])) (q : Q w H) : rXf K (.ref (E.cl s)) (some d) a "value" (.ref a) H Q :=
  ⟨_, d, _, w, rfl, rfl, E.xf hs, (E.gi s hs).nv, rfl, hd, rfl, q⟩
end
end
section
variable {σ : St} {H : Hp} {Q : VK}
theorem gnm {i : Nat} {v : V} {Q : St → Hp → Prop} (h : Q (σ.set i (some v)) H) : gName i v σ H Q := h
theorem gcallS {sp : Sp} {E : St → XK} {t : TA} (h : t σ H fun vs H1 => sp vs H1 Q (E σ)) : tCallS sp E t σ H Q := h
theorem gtry {tb : WX → TS} {K : KF} {c : Value} {i : Nat} {ts : Addr → Value → Option Addr → TS} {Wout : WX} {D : Ends} (h : tb (wAs K c i ts Wout D) D σ H) : (fun D σ H => tb (wAs K c i ts Wout D) D σ H : TS) D σ H := h
def rIsiS : List V → Hp → VK → Prop := fun xs H Q => ∃ z : Str, xs = [.str z, .ty "str"] ∧ Q (.bl true) H
theorem call_isiS {X : Cx} : CallR X (.builtin "isinstance") rIsiS := by
  intro pins s σ H xs us Q I r h
  obtain ⟨z, rfl, q⟩ := h
  exact call_isi pins s σ H _ us Q I r ⟨_, _, _, _, true, rfl, .ty "str", .base (.str z), kit_ty (by decide +kernel), q⟩
theorem r_isiS {a : Tx} (q : Q (.bl true) H) : rIsiS [.str (mkS a), .ty "str"] H Q := ⟨_, rfl, q⟩
end
end Sg
/-! Sg7: comprehensions; the law's state -/
namespace Sg
open Enc (enc)
open ToD (toD)
open PySem PySem.Spec PyProof.Rows L2
def LB (J : It) (g : TG) (tt : TT) (te : TE) (vs : List Nat) (σ : St) (H1 : Hp) (D : Addr) (Q : VK) : Prop := ∃ W : Nat → Nat → Hp → Prop, (∃ m, W 0 m (upd H1 D (.lst []))) ∧ ∀ i m H, W i m H →
  (J.stop i H ∧ Q (.ref D) H) ∨ (J.go i H ∧ ∃ Nx : Hp → Prop, (∀ H', Nx H' → ∃ m', m' < m ∧ W (i + 1) m' H') ∧ ∀ x H', J.yld i H x H' → g x (wipe σ vs) H' fun σ2 H2 => wipe σ2 vs = wipe σ vs ∧ tt σ2 H2 fun b H3 =>
    if b = true then te σ2 H3 fun y H4 => ∃ acc, H4 D = some (.lst acc) ∧ acc.length < sizeLine ∧ Nx (upd H4 D (.lst (acc ++ [y]))) else Nx H3)
/-- what one more item asks -/
def nA (D : Addr) (N : Hp → Prop) : VK := fun y H4 => ∃ acc, H4 D = some (.lst acc) ∧ acc.length < sizeLine ∧ N (upd H4 D (.lst (acc ++ [y])))
section
variable {σ : St} {H H1 : Hp} {g : TG} {tt : TT} {te tl : TE} {vs : List Nat} {D : Addr} {Q : VK} {K : KF} {J : It}
theorem glcS (h : tl σ H fun v H1 => ∃ x, v = .str x ∧ ∀ D, H1 D = none → LB (Its x) g tt te vs σ H1 D Q) : tLc (iStr tl) g tt te vs σ H Q := h
theorem glcL (h : tl σ H fun v H1 => ∃ a, v = .ref a ∧ (∃ xs, SqL K H1 a xs) ∧ ∀ D, H1 D = none → LB (Itl K a) g tt te vs σ H1 D Q) : tLc (iList K tl) g tt te vs σ H Q := h
theorem glcR {ta : TA} (h : ta σ H fun us H1 => ∃ j : Int, us = [.int j] ∧ -(2 ^ 62) ≤ j ∧ j < 2 ^ 62 ∧ ∀ D, H1 D = none → LB (Itr 0 j.toNat) g tt te vs σ H1 D Q) : tLc (iRng1 ta) g tt te vs σ H Q := h
theorem gyes {Q : Bool → Hp → Prop} (q : Q true H) : tYes σ H Q := q
theorem lcW {α : Type} {n : Nat} {G : Hp → Prop} {Y : Nat → Hp → V → Hp → Prop} (w : Walk J n G Y) (l : List α) (hl : l.length = n) (P : List α → Hp → Prop) (h0 : P l (upd H1 D (.lst []))) (hG : ∀ r H, P r H → G H)
    (hs : ∀ (i : Nat) x r v H H', l.drop i = x :: r → l[i]? = some x → P (x :: r) H → Y i H v H' → g v (wipe σ vs) H' fun σ2 H2 => wipe σ2 vs = wipe σ vs ∧ tt σ2 H2 fun b H3 => if b = true then te σ2 H3 (nA D (P r)) else P r H3)
    (hd : ∀ H, P [] H → Q (.ref D) H) : LB J g tt te vs σ H1 D Q := by
  refine lc_it w (fun i H => P (l.drop i) H) h0 (fun i H _ h => hG _ _ h) (fun i v H H' hi h y => ?_) (fun H h => hd H ?_)
  · have hi' : i < l.length := by omega
    have e : l.drop i = l[i] :: l.drop (i + 1) := List.drop_eq_getElem_cons hi'
    have h' : P (l[i] :: l.drop (i + 1)) H := e ▸ h
    exact hs i l[i] (l.drop (i + 1)) v H H' e (List.getElem?_eq_getElem hi') h' y
  · rw [← hl, List.drop_length] at h
    exact h
theorem lcS {z : Tx} (P : Tx → Hp → Prop) (h0 : P z (upd H1 D (.lst [])))
    (hs : ∀ c r H, P (c :: r) H → g (.str (mkS [c])) (wipe σ vs) H fun σ2 H2 => wipe σ2 vs = wipe σ vs ∧ tt σ2 H2 fun b H3 => if b = true then te σ2 H3 (nA D (P r)) else P r H3)
    (hd : ∀ H, P [] H → Q (.ref D) H) : LB (Its (mkS z)) g tt te vs σ H1 D Q := by
  refine lcW walk_str z (by simp [mkS]) P h0 (fun _ _ _ => trivial) (fun i x r v H H' e ex h y => ?_) hd
  obtain ⟨rfl, c, hc, rfl⟩ := y
  have hc' : z[i]? = some c := by simpa [mkS] using hc
  have := Option.some.inj (hc'.symm.trans ex)
  subst this
  exact hs c r H' h
theorem lcR {n : Nat} (P : List Int → Hp → Prop) (h0 : P (rangeI 0 n) (upd H1 D (.lst [])))
    (hs : ∀ k r H, P (k :: r) H → g (.int k) (wipe σ vs) H fun σ2 H2 => wipe σ2 vs = wipe σ vs ∧ tt σ2 H2 fun b H3 => if b = true then te σ2 H3 (nA D (P r)) else P r H3)
    (hd : ∀ H, P [] H → Q (.ref D) H) : LB (Itr 0 n) g tt te vs σ H1 D Q := by
  refine lcW walk_range (rangeI 0 n) (rangeI_len _ _) P h0 (fun _ _ _ => trivial) (fun i x r v H H' e ex h y => ?_) hd
  obtain ⟨rfl, rfl⟩ := y
  have hx : x = 0 + (i : Nat) := by
    unfold rangeI at ex
    rw [List.getElem?_map] at ex
    cases q : (List.range n)[i]? with
    | none => rw [q] at ex; cases ex
    | some j =>
      rw [q] at ex
      have hj : j = i := by
        obtain ⟨hlt, hj⟩ := List.getElem?_eq_some_iff.mp q
        simpa using hj.symm
      subst hj
      exact (Option.some.inj ex).symm
  subst hx
  exact hs _ r H' h
theorem lcL {α : Type} [Enc α] {B : Hp} {a : Addr} {ws : List V} {l : List α} (he : EncL K B ws l) (P : List α → Hp → Prop) (h0 : P l (upd H1 D (.lst []))) (hG : ∀ r H, P r H → H a = some (.lst ws))
    (hs : ∀ x r v H, P (x :: r) H → enc K B v x → g v (wipe σ vs) H fun σ2 H2 => wipe σ2 vs = wipe σ vs ∧ tt σ2 H2 fun b H3 => if b = true then te σ2 H3 (nA D (P r)) else P r H3)
    (hd : ∀ H, P [] H → Q (.ref D) H) : LB (Itl K a) g tt te vs σ H1 D Q := by
  refine lcW walk_list l he.len.symm P h0 (fun r H h => SqL.of (hG r H h)) (fun i x r v H H' e ex h y => ?_) hd
  obtain ⟨rfl, hv⟩ := y
  obtain ⟨v', h1, h2⟩ := he.get ex
  have := Option.some.inj (hv.symm.trans h1)
  subst this
  exact hs x r v H' h h2
theorem r_nA {α : Type} [Enc α] {B : Hp} {accV : List V} {acc z : List α} {x : α} {y : V} {N : Hp → Prop} (hD : H D = some (.lst accV)) (el : EncL K B accV acc) (h : appL acc x = some z) (q : N (upd H D (.lst (accV ++ [y])))) : nA D N y H := by
  unfold appL at h
  split at h
  · rename_i hl
    exact ⟨accV, hD, by rw [el.len]; exact hl, q⟩
  · cases h
/-! the law's state, read and written -/
theorem r_ls0 {sa cl : Addr} {x : LS} (h : H sa = some (lsO cl x)) (q : Q (.ref cl) H) : rIxL K (.ref sa) (.int 0) H Q := ⟨sa, _, 0, _, rfl, rfl, SqL.of h, rfl, q⟩
theorem r_ls1 {sa cl : Addr} {x : LS} (h : H sa = some (lsO cl x)) (q : Q (.int x.a) H) : rIxL K (.ref sa) (.int 1) H Q := ⟨sa, _, 1, _, rfl, rfl, SqL.of h, rfl, q⟩
theorem r_ls2 {sa cl : Addr} {x : LS} (h : H sa = some (lsO cl x)) (q : Q (.int x.b) H) : rIxL K (.ref sa) (.int 2) H Q := ⟨sa, _, 2, _, rfl, rfl, SqL.of h, rfl, q⟩
theorem r_ls3 {sa cl : Addr} {x : LS} (h : H sa = some (lsO cl x)) (q : Q (.int x.c) H) : rIxL K (.ref sa) (.int 3) H Q := ⟨sa, _, 3, _, rfl, rfl, SqL.of h, rfl, q⟩
theorem r_ls4 {sa cl : Addr} {x : LS} (h : H sa = some (lsO cl x)) (q : Q (.int x.d) H) : rIxL K (.ref sa) (.int 4) H Q := ⟨sa, _, 4, _, rfl, rfl, SqL.of h, rfl, q⟩
def LS.p1 (x : LS) (y : Int) : LS := { x with a := y }
def LS.p2 (x : LS) (y : Int) : LS := { x with b := y }
def LS.p3 (x : LS) (y : Int) : LS := { x with c := y }
def LS.p4 (x : LS) (y : Int) : LS := { x with d := y }
theorem r_put1 {sa cl : Addr} {x : LS} {y : Int} {Q : Hp → Prop} (h : H sa = some (lsO cl x)) (q : Q (upd H sa (lsO cl (x.p1 y)))) : rSetL (.ref sa) (.int 1) (.int y) H Q := ⟨sa, _, 1, 1, rfl, rfl, h, rfl, q⟩
theorem r_put2 {sa cl : Addr} {x : LS} {y : Int} {Q : Hp → Prop} (h : H sa = some (lsO cl x)) (q : Q (upd H sa (lsO cl (x.p2 y)))) : rSetL (.ref sa) (.int 2) (.int y) H Q := ⟨sa, _, 2, 2, rfl, rfl, h, rfl, q⟩
theorem r_put3 {sa cl : Addr} {x : LS} {y : Int} {Q : Hp → Prop} (h : H sa = some (lsO cl x)) (q : Q (upd H sa (lsO cl (x.p3 y)))) : rSetL (.ref sa) (.int 3) (.int y) H Q := ⟨sa, _, 3, 3, rfl, rfl, h, rfl, q⟩
theorem r_put4 {sa cl : Addr} {x : LS} {y : Int} {Q : Hp → Prop} (h : H sa = some (lsO cl x)) (q : Q (upd H sa (lsO cl (x.p4 y)))) : rSetL (.ref sa) (.int 4) (.int y) H Q := ⟨sa, _, 4, 4, rfl, rfl, h, rfl, q⟩
theorem gasgG {D : Ends} (h : te σ H fun x H1 => g x σ H1 D.nx) : tAsg te g D σ H := h
theorem gsub {to ti : TE} {t : TSet} {v : V} {Q : St → Hp → Prop} (h : to σ H fun o H1 => ti σ H1 fun i H2 => t o i v H2 fun H3 => Q σ H3) : gSub to ti t v σ H Q := h
theorem encL_ints {B : Hp} : ∀ cs : List Int, EncL K B (cs.map V.int) cs
  | [] => .nil
  | c :: cs => .cons rfl (encL_ints cs)
theorem enc_cs {B : Hp} {cl : Addr} {cs : List Int} (h : B cl = some (.lst (cs.map V.int))) : enc K B (.ref cl) cs := ⟨cl, _, rfl, h, encL_ints cs⟩
end
section
variable {H0 B0 B H : Hp} {ms : List Addr} {ow : List (Addr × HO)} {a : Addr} {o : HO}
/-- an object that a call has made becomes one's own -/
theorem Wd.adopt (W : Wd H0 ms B0 B H ow) (h : H a = some o) (nb : B a = none) (h0 : H0 a = none) (no : ∀ q ∈ ow, q.1 ≠ a) : Wd H0 ms B0 B H ((a, o) :: ow) := by
  refine ⟨W.b0, W.sub, W.keep, fun q hq => ?_, fun q hq => ?_, fun q hq => ?_, ?_, W.prov, fun c hc => ?_, W.mh⟩
  · rcases List.mem_cons.mp hq with rfl | hq
    · exact h
    · exact W.at_ q hq
  · rcases List.mem_cons.mp hq with rfl | hq
    · exact nb
    · exact W.nB q hq
  · rcases List.mem_cons.mp hq with rfl | hq
    · exact .inl h0
    · exact W.mine q hq
  · rw [List.map_cons, List.nodup_cons]
    refine ⟨fun hm => ?_, W.nd⟩
    obtain ⟨q, hq, e⟩ := List.mem_map.mp hm
    exact no q hq e
  · obtain ⟨o', h'⟩ := W.mo c hc
    exact ⟨o', List.mem_cons_of_mem _ h'⟩
end
end Sg
/-! SgGen: a generator's own if and for -/
namespace PySem
section
variable {M : Model} {A : Around} {R : GenEnd} {Y : Protocol} {n : Nat} {s₀ : Shared} {c : Code} {fs : List Frame} {s : Shared} {env : Env}
  {K : Flow → Sem Fin} {H : Value → Sem Fin} {gd : Bool → Bool} {lv : List Value → List Value}
theorem sg_segw {α β : Type} {m : Sem α} {f : α → Sem β} {K : β → Sem Fin}
    (h : wpAny M (A.over c fs) m (fun a s' => Seg M A R Y n s₀ c ((f a).wrap K H gd lv) fs s') (fun x s' => Seg M A R Y n s₀ c (H x) fs s') s) :
    Seg M A R Y n s₀ c ((m >>= f).wrap K H gd lv) fs s := by
  rw [Sem.bind_eq_wrap', Sem.wrap_wrap]
  exact seg_wrap h
theorem sg_seg_If {test : Expr} {a b : List Stmt} {pos : Pos}
    (h : wpAny M (A.over c fs) (isTrue test env (eval test env)) (fun d s' => Seg M A R Y n s₀ c ((execs (if d = true then a else b) env).wrap K H gd lv) fs s') (fun x s' => Seg M A R Y n s₀ c (H x) fs s') s) :
    Seg M A R Y n s₀ c ((exec (.If test a b pos) env).wrap K H gd lv) fs s := by
  rw [exec_If]
  refine seg_at ?_
  show Seg M A R Y n s₀ c ((isTrue test env (eval test env) >>= fun d => if d = true then execs a env else execs b env).wrap K H gd lv) fs s
  rw [Sem.bind_eq_wrap', Sem.wrap_wrap]
  refine seg_wrap (wpAny_mono h (fun d s' hd => ?_) fun _ _ x => x)
  cases d with
  | true => exact hd
  | false => exact hd
theorem sg_seg_For {tg iter : Expr} {body : List Stmt} {pos : Pos} (hs : ∀ x, foldedSetIterable iter env x = pure x)
    (h : wpAny M (A.over c fs) (eval iter env) (fun x s₁ => wpAny M (A.over c fs) (pyIter x) (fun it s₂ => ∀ p, Seg M A R Y n s₀ (.forLoop tg it body [] env) (M.den (.forLoop tg it body [] env))
      (.ret (fun r => ((match r with | .ok f => (.pure f : Sem Flow) | .error e => .raise e).onRaise fun (x : Value) => do
        if (← field x 1) == Value.none then unsupported "frame.own-activation:exception-without-traceback"
        setFlight x env.frame).wrap K H gd lv) none (gd false) (lv []) c p [] :: fs) s₂) (fun x s' => Seg M A R Y n s₀ c (H x) fs s') s₁) (fun x s' => Seg M A R Y n s₀ c (H x) fs s') s) :
    Seg M A R Y n s₀ c ((exec (.For tg iter body [] pos) env).wrap K H gd lv) fs s := by
  rw [exec_For]
  refine seg_at ?_
  show Seg M A R Y n s₀ c ((eval iter env >>= fun y => foldedSetIterable iter env y >>= fun x => standAt iter.pos >>= fun _ => holding [x] (pyIter x) >>= fun it => runOwn (.forLoop tg it body [] env) env).wrap K H gd lv) fs s
  rw [Sem.bind_eq_wrap', Sem.wrap_wrap]
  refine seg_wrap (wpAny_mono h (fun v s' hv => ?_) fun _ _ x => x)
  rw [hs v]
  refine seg_at ?_
  show Seg M A R Y n s₀ c ((holding [v] (pyIter v) >>= fun it => runOwn (.forLoop tg it body [] env) env).wrap K H gd lv) fs s'
  rw [Sem.bind_eq_wrap', Sem.wrap_wrap]
  refine seg_wrap (wpAny_holding (wpAny_mono hv (fun it s2 h2 => ?_) fun _ _ x => x))
  exact seg_call h2
end
section
variable {prog : Program} {w : World} {A : Around} {R : GenEnd} {Y : Protocol} {n : Nat} {s₀ : Shared} {fs : List Frame} {s : Shared} {env : Env}
theorem sg_seg_forLoop {tg : Expr} {it : Value} {body : List Stmt} {EX : Value → Shared → Prop}
    (hx : ∀ x s', EX x s' → Seg (model prog w) A R Y n s₀ (.forLoop tg it body [] env) ((do noteFrame x env; theTreesLotGoes x : Sem Unit).wrap (fun _ => .raise x) .raise id id) fs s')
    (h : wpAny (model prog w) (A.over (.forLoop tg it body [] env) fs) (pyNext it) (fun r s₁ => match r with
      | none => Seg (model prog w) A R Y n s₀ (.forLoop tg it body [] env) (.pure (.again (.block [] env))) fs s₁
      | some v => wpAny (model prog w) (A.over (.forLoop tg it body [] env) fs) (letOwnedTupleGo tg it v) (fun _ s₂ => wpAny (model prog w) (A.over (.forLoop tg it body [] env) fs) (assign tg env v) (fun _ s₃ =>
          Seg (model prog w) A R Y n s₀ (.forLoop tg it body [] env) ((execs body env).wrap (fun f => match f with
            | .next | .cont => .pure (.again (.forLoop tg it body [] env))
            | .brk => .pure (.done .next)
            | .ret v => .pure (.done (.ret v))) (fun e => (do noteFrame e env; theTreesLotGoes e : Sem Unit).wrap (fun _ => .raise e) .raise id id) id id) fs s₃) EX s₂) EX s₁) EX s) :
    Seg (model prog w) A R Y n s₀ (.forLoop tg it body [] env) ((model prog w).den (.forLoop tg it body [] env)) fs s := by
  have hx' : ∀ x s', EX x s' → Seg (model prog w) A R Y n s₀ (.forLoop tg it body [] env) ((do noteFrame x env; theTreesLotGoes x : Sem Unit).bind fun _ => .raise x) fs s' := fun x s' q => by
    rw [Sem.bind_eq_wrap]; exact hx x s' q
  show Seg _ A R Y n s₀ _ ((forTurn tg it body [] env).onRaise (fun x => do noteFrame x env; theTreesLotGoes x)) fs s
  unfold forTurn
  rw [Sem.onRaise_eq_wrap]
  refine seg_at ?_
  refine sg_segw (wpAny_pure ?_)
  refine sg_segw (wpAny_onRaise (wpAny_mono h (fun r s1 h1 => ?_) fun x s1 q => wpAny_standAt (hx' x s1 q)))
  cases r with
  | none => exact h1
  | some v =>
    refine sg_segw (wpAny_mono h1 (fun _ s2 h2 => ?_) fun x s1 q => hx' x s1 q)
    refine sg_segw (wpAny_mono h2 (fun _ s3 h3 => ?_) fun x s1 q => hx' x s1 q)
    rw [Sem.bind_eq_wrap', Sem.wrap_wrap]
    rw [Sem.wrap_congr (execs body env) _ _ (K' := fun f => match f with
            | .next | .cont => .pure (.again (.forLoop tg it body [] env))
            | .brk => .pure (.done .next)
            | .ret v => .pure (.done (.ret v))) (H' := (fun e => (do noteFrame e env; theTreesLotGoes e : Sem Unit).wrap (fun _ => .raise e) .raise id id))
        (fun f => by cases f <;> rfl)
        (fun e => by first | exact Sem.bind_eq_wrap _ _ | (show (do noteFrame e env; theTreesLotGoes e : Sem Unit).bind (fun _ => .raise e) = _; rw [Sem.bind_eq_wrap]))]
    exact h3
end
end PySem
namespace L2
open PySem PySem.Spec PyProof.Rows GenW
section
variable {X : Cx} {st : Stmt} {rest : List Stmt}
def tGIf (c : TT) (ta tb : TGn) : TGn := fun D ys σ H => c σ H fun b H1 => if b = true then ta D ys σ H1 else tb D ys σ H1
theorem sg_gs_if {test : Expr} {a b : List Stmt} {pos : Pos} {tc : TT} {ta tb : TGn} (hc : PT X test tc) (ha : GSs X a ta) (hb : GSs X b tb) : GS X (.If test a b pos) (tGIf tc ta tb) := by
  refine ⟨fun A S ip R n ys s₀ c fs K J gd lv s σ H D g hn k hI ht => ?_⟩
  obtain ⟨acc, cc, r, I⟩ := hI
  refine sg_seg_If ?_
  rw [g.over]
  refine wpAny_mono (hc.run _ s σ H _ I ht) (fun d s' hd => ?_) fun x s' hx => k.exc n s₀ x s' hx
  obtain ⟨H1, I1, q1⟩ := hd
  cases d with
  | true =>
    rw [if_pos rfl] at q1 ⊢
    exact ha.run A S ip R n ys s₀ c fs K J gd lv s' σ H1 D g hn k ⟨acc, cc, r, I1⟩ q1
  | false =>
    rw [if_neg Bool.false_ne_true] at q1 ⊢
    exact hb.run A S ip R n ys s₀ c fs K J gd lv s' σ H1 D g hn k ⟨acc, cc, r, I1⟩ q1
def tGFor (wi : TI) (g : TG) (tb : TGn) : TGn := fun D ys σ H => wi σ H fun J H1 => ∃ W : Nat → Nat → List V → St → Hp → Prop, (∃ m, W 0 m ys σ H1) ∧ ∀ i m ys σ H, W i m ys σ H →
  (J.stop i H ∧ D.nx ys σ H) ∨ (J.go i H ∧ ∃ N : List V → St → Hp → Prop, (∀ ys' σ' H', N ys' σ' H' → ∃ m', m' < m ∧ W (i + 1) m' ys' σ' H') ∧ ∀ x H', J.yld i H x H' → g x σ H' fun σ2 H2 => tb { D with nx := N, ct := N, bk := D.nx } ys σ2 H2)
theorem sg_gs_for {tg iter : Expr} {body : List Stmt} {wi : TI} {g : TG} {tb : TGn} {pos : Pos} (hp : PassesOwn (model X.prog X.w) X.A X.env X.xe) (hc : X.calm = true) (hi : PI X tg iter wi) (hg : PG X tg g) (hb : GSs X body tb)
    (hs : ∀ x, foldedSetIterable iter X.env x = pure x := by intro _; rfl) : GS X (.For tg iter body [] pos) (tGFor wi g tb) := by
  refine ⟨fun A S ip R n ys s₀ c fs K J gd lv s σ H D gc hn k hI ht => ?_⟩
  obtain ⟨acc, cc, r, I⟩ := hI
  refine sg_seg_For hs ?_
  rw [gc.over]
  refine wpAny_mono (hi.run _ s σ H _ I ht) (fun v s1 h1 => wpAny_mono h1 (fun itv s2 h2 p => ?_) fun x s' hx => k.exc n s₀ x s' hx) fun x s' hx => k.exc n s₀ x s' hx
  obtain ⟨it, fp, tn, Ji, H2, e, I2, T, st2, f2, W, ⟨m0, w0⟩, turn⟩ := h2
  subst e
  have gl := fun (kk : Result → Sem PySem.Fin) => gc_loop (k := kk) (c' := .forLoop tg (.ref it) body [] X.env) (l := lv []) (kp := []) (p := p) gc rfl rfl
  have stat : ∀ {acc : Array Value} {cc : Nat} {H' : Hp}, (∀ b ∈ fp, H' b = none) → ∀ b ∈ fp, FpOk X ((S, lstObj acc cc) :: ip) H' b := fun {acc' cc' H'} hn b hb => by
    obtain ⟨_, q1, q2, q3, q4, q5⟩ := f2 b hb
    refine ⟨hn b hb, q1, q2, q3, q4, fun p hp => ?_⟩
    rcases List.mem_append.mp hp with z | z
    · exact q5 p (List.mem_append_left _ z)
    · rcases List.mem_cons.mp z with z | z
      · rw [z]
        exact q5 (S, lstObj acc cc) (List.mem_append_right _ List.mem_cons_self)
      · exact q5 p (List.mem_append_right _ (List.mem_cons_of_mem _ z))
  have neS : ∀ b ∈ fp, b ≠ S := fun b hb e => (f2 b hb).2.2.2.2.2 (S, lstObj acc cc) (List.mem_append_right _ List.mem_cons_self) e.symm
  have loop : ∀ (m i n : Nat) (ys : List V) (s₀ s : Shared) (σ : St) (H : Hp), n + ys.length = sizeLine → W i m ys σ H → GI X S ip ys σ H s → tn i s.heap → (∀ b ∈ fp, H b = none) →
      Seg (model X.prog X.w) A R (GY X S) n s₀ (.forLoop tg (.ref it) body [] X.env) ((model X.prog X.w).den (.forLoop tg (.ref it) body [] X.env))
        (.ret (fun r => ((match r with | .ok f => (.pure f : Sem Flow) | .error e => .raise e).onRaise (cameBack X.env)).wrap K J gd lv) none (gd false) (lv []) c p [] :: fs) s := by
    intro m
    induction m using Nat.strongRecOn with
    | ind m ih =>
      intro i n ys s₀ s σ H hn w hI st fr
      have ee : ∀ (n : Nat) (s₀ : Shared) (x : Value) (s' : Shared), X.xe x s' → Seg (model X.prog X.w) A R (GY X S) n s₀ (.forLoop tg (.ref it) body [] X.env)
          ((do noteFrame x X.env; theTreesLotGoes x : Sem Unit).wrap (fun _ => .raise x) .raise id id)
          (.ret (fun r => ((match r with | .ok f => (.pure f : Sem Flow) | .error e => .raise e).onRaise (cameBack X.env)).wrap K J gd lv) none (gd false) (lv []) c p [] :: fs) s' := fun n s₀ x s' hx => by
        refine seg_wrap ?_
        rw [(gl _).over]
        refine wpAny_bind (wpAny_mono (hp x s' hx) (fun _ s'' hcb => wpAny_theTreesLotGoes ?_) fun y s'' hcb => ?_)
        · exact seg_leaf (.error x) (seg_cameBack gc k hcb)
        · exact seg_leaf (.error y) (seg_cameBack gc k hcb)
      refine sg_seg_forLoop (EX := X.xe) (ee n s₀) ?_
      rw [(gl _).over]
      obtain ⟨acc, cc, r, I⟩ := hI
      rcases turn i m ys σ H w with ⟨stop, qn⟩ | ⟨go, N, hN, step⟩
      · refine wpAny_mono (T.done X rfl rfl rfl hc i _ s σ H X.xe I (stat fr) st stop) (fun rr s4 h4 => ?_) fun x s' hx => hx
        obtain ⟨rfl, I4⟩ := h4
        refine seg_again rfl ?_
        exact seg_leaf (.ok .next) (k.ok n ys s₀ s4 .next hn ⟨σ, H, ⟨acc, cc, r, I4⟩, qn⟩)
      · refine wpAny_mono (T.item X rfl rfl rfl hc i _ s σ H X.xe I (stat fr) st go) (fun rr s4 h4 => ?_) fun x s' hx => hx
        obtain ⟨u, rfl, h4⟩ := h4
        refine wpAny_mono h4 (fun _ s5 h5 => ?_) fun x s' hx => hx
        obtain ⟨x, H5, I5, r5, y5, st5, fr5⟩ := h5
        have I5' := I5.pinned (stat fr5) (T.obj _ _ st5)
        refine wpAny_mono (hg.run _ s5 σ H5 x u _ I5' r5 (step x H5 y5)) (fun _ s6 h6 => ?_) fun x s' hx => hx
        obtain ⟨σ6, H6, I6, q6⟩ := h6
        have gl2 : GC X S (ip ++ pinsAt fp s5.heap) A (.forLoop tg (.ref it) body [] X.env) (.ret (fun r => ((match r with | .ok f => (.pure f : Sem Flow) | .error e => .raise e).onRaise (cameBack X.env)).wrap K J gd lv) none (gd false) (lv []) c p [] :: fs) id :=
          have g0 := gl (fun r => ((match r with | .ok f => (.pure f : Sem Flow) | .error e => .raise e).onRaise (cameBack X.env)).wrap K J gd lv)
          ⟨g0.pn, fun p hp => (List.mem_append.mp hp).elim (fun z => g0.ip p z) fun z => neS _ (of_pinsAt z).1, g0.apart, g0.over, g0.split, g0.guard, g0.gd⟩
        have again : ∀ (n' : Nat) (ys' : List V) (s₀' s7 : Shared) (σ7 : St) (H7 : Hp), n' + ys'.length = sizeLine → GI X S (ip ++ pinsAt fp s5.heap) ys' σ7 H7 s7 → N ys' σ7 H7 → Seg (model X.prog X.w) A R (GY X S) n' s₀' (.forLoop tg (.ref it) body [] X.env) (.pure (.again (.forLoop tg (.ref it) body [] X.env)))
            (.ret (fun r => ((match r with | .ok f => (.pure f : Sem Flow) | .error e => .raise e).onRaise (cameBack X.env)).wrap K J gd lv) none (gd false) (lv []) c p [] :: fs) s7 := fun n' ys' s₀' s7 σ7 H7 hn' I7 n7 => by
          obtain ⟨m', hm, w7⟩ := hN ys' σ7 H7 n7
          obtain ⟨acc7, cc7, r7, J7⟩ := I7
          have pin : ∀ b ∈ fp, ∀ o, s5.heap.get? b = some o → s7.heap.get? b = some o ∧ H7 b = none := fun b hb o e => by
            have z := J7.pin (b, o) (List.mem_append_right _ (List.mem_cons_of_mem _ (List.mem_append_right _ (mem_pinsAt hb e))))
            exact ⟨z.1, z.2.1⟩
          refine seg_again rfl (ih m' hm (i + 1) n' ys' s₀' s7 σ7 H7 hn' w7 ⟨acc7, cc7, r7, J7.unpinned⟩ (T.keep _ _ _ st5 fun b hb o e => (pin b hb o e).1) fun b hb => ?_)
          obtain ⟨o, e, _⟩ := T.obj _ _ st5 b hb
          exact (pin b hb o e).2
        refine hb.run A S (ip ++ pinsAt fp s5.heap) R n ys s₀ _ _ _ _ id id s6 σ6 H6 { D with nx := N, ct := N, bk := D.nx } gl2 hn ⟨fun n' ys' s₀' s3 f hn' hs => ?_, fun n' s₀' x s3 hx => ee n' s₀' x s3 hx⟩ ⟨acc, cc, r, I6⟩ q6
        have unp : ∀ {σ' : St} {H' : Hp} {ys' : List V}, GI X S (ip ++ pinsAt fp s5.heap) ys' σ' H' s3 → GI X S ip ys' σ' H' s3 := fun ⟨a7, c7, r7, J7⟩ => ⟨a7, c7, r7, J7.unpinned⟩
        cases f with
        | next =>
          obtain ⟨σ3, H3, I3, n3⟩ := hs
          exact again n' ys' s₀' s3 σ3 H3 hn' I3 n3
        | cont =>
          obtain ⟨σ3, H3, I3, n3⟩ := hs
          exact again n' ys' s₀' s3 σ3 H3 hn' I3 n3
        | brk =>
          obtain ⟨σ3, H3, I3, n3⟩ := hs
          exact seg_leaf (.ok .next) (k.ok n' ys' s₀' s3 .next hn' ⟨σ3, H3, unp I3, n3⟩)
        | ret v =>
          obtain ⟨x3, σ3, H3, I3, r3, n3⟩ := hs
          exact seg_leaf (.ok (.ret v)) (k.ok n' ys' s₀' s3 (.ret v) hn' ⟨x3, σ3, H3, unp I3, r3, n3⟩)
  exact loop m0 0 n ys s₀ s2 σ H2 hn w0 ⟨acc, cc, r, I2⟩ st2 fun b hb => (f2 b hb).1
end
end L2
/-! SgRows: loops of generators, comprehensions of two walks, rows_up_to -/
namespace Sg
open Enc (enc)
open ToD (toD)
open PySem PySem.Spec PyProof.Rows L2
def GB (J : It) (g : TG) (tb : TGn) (D : GEnds) (ys : List V) (σ : St) (H1 : Hp) : Prop := ∃ W : Nat → Nat → List V → St → Hp → Prop, (∃ m, W 0 m ys σ H1) ∧ ∀ i m ys σ H, W i m ys σ H →
  (J.stop i H ∧ D.nx ys σ H) ∨ (J.go i H ∧ ∃ N : List V → St → Hp → Prop, (∀ ys' σ' H', N ys' σ' H' → ∃ m', m' < m ∧ W (i + 1) m' ys' σ' H') ∧ ∀ x H', J.yld i H x H' → g x σ H' fun σ2 H2 => tb { D with nx := N, ct := N, bk := D.nx } ys σ2 H2)
def LB2 (J : It) (g : TG) (tt : TT) (wi1 : TI) (g1 : TG) (tt1 : TT) (te : TE) (vs vs1 : List Nat) (σ : St) (H1 : Hp) (D : Addr) (Q : VK) : Prop := ∃ W : Nat → Nat → Hp → Prop, (∃ m, W 0 m (upd H1 D (.lst []))) ∧ ∀ i m H, W i m H →
  (J.stop i H ∧ Q (.ref D) H) ∨ (J.go i H ∧ ∃ Nx : Hp → Prop, (∀ H', Nx H' → ∃ m', m' < m ∧ W (i + 1) m' H') ∧ ∀ x H', J.yld i H x H' → g x (wipe σ vs) H' fun σ2 H2 => wipe σ2 vs = wipe σ vs ∧ tt σ2 H2 fun b H3 =>
    if b = true then wi1 σ2 H3 fun J1 H4 => ∃ W1 : Nat → Nat → Hp → Prop, (∃ m, W1 0 m H4) ∧ ∀ j k H, W1 j k H →
      (J1.stop j H ∧ Nx H) ∨ (J1.go j H ∧ ∃ Nx1 : Hp → Prop, (∀ H', Nx1 H' → ∃ k', k' < k ∧ W1 (j + 1) k' H') ∧ ∀ x H', J1.yld j H x H' → g1 x (wipe σ2 vs1) H' fun σ3 H5 => wipe σ3 vs1 = wipe σ2 vs1 ∧ tt1 σ3 H5 fun b H6 =>
        if b = true then te σ3 H6 (nA D Nx1) else Nx1 H6)
    else Nx H3)
def IB (g1 : TG) (tt1 : TT) (te : TE) (vs1 : List Nat) (σ2 : St) (D : Addr) (Nx : Hp → Prop) (J1 : It) (H4 : Hp) : Prop := ∃ W1 : Nat → Nat → Hp → Prop, (∃ m, W1 0 m H4) ∧ ∀ j k H, W1 j k H →
      (J1.stop j H ∧ Nx H) ∨ (J1.go j H ∧ ∃ Nx1 : Hp → Prop, (∀ H', Nx1 H' → ∃ k', k' < k ∧ W1 (j + 1) k' H') ∧ ∀ x H', J1.yld j H x H' → g1 x (wipe σ2 vs1) H' fun σ3 H5 => wipe σ3 vs1 = wipe σ2 vs1 ∧ tt1 σ3 H5 fun b H6 =>
        if b = true then te σ3 H6 (nA D Nx1) else Nx1 H6)
section
variable {σ : St} {H H1 H4 : Hp} {g g1 : TG} {tb : TGn} {D : GEnds} {ys : List V} {K : KF} {J J1 : It} {tt tt1 : TT} {te tl : TE} {wi1 : TI} {vs vs1 : List Nat} {Dd : Addr} {Q : VK} {N : Hp → Prop}
theorem gplain {t : TS} (h : t (D.at ys) σ H) : tPlain t D ys σ H := h
theorem gthen {t u : TGn} (h : t { D with nx := fun ys' σ' H' => u D ys' σ' H' } ys σ H) : tGThen t u D ys σ H := h
theorem ggif {c : TT} {ta tb : TGn} (h : c σ H fun b H1 => if b = true then ta D ys σ H1 else tb D ys σ H1) : tGIf c ta tb D ys σ H := h
theorem gyield (hl : ys.length < sizeLine) (h : te σ H fun x H1 => D.nx (ys ++ [x]) σ H1) : tGYield te D ys σ H := ⟨hl, h⟩
theorem ggforR {ta : TA} (h : ta σ H fun vs H1 => ∃ j : Int, vs = [.int j] ∧ -(2 ^ 62) ≤ j ∧ j < 2 ^ 62 ∧ GB (Itr 0 j.toNat) g tb D ys σ H1) : tGFor (iRng1 ta) g tb D ys σ H := h
theorem ggforL (h : tl σ H fun x H1 => ∃ a, x = .ref a ∧ (∃ xs, SqL K H1 a xs) ∧ GB (Itl K a) g tb D ys σ H1) : tGFor (iList K tl) g tb D ys σ H := h
theorem gloopW {α : Type} {n : Nat} {G : Hp → Prop} {Y : Nat → Hp → V → Hp → Prop} (w : Walk J n G Y) (l : List α) (hl : l.length = n) (P : List α → List V → St → Hp → Prop) (h0 : P l ys σ H) (hG : ∀ r ys σ H, P r ys σ H → G H)
    (hs : ∀ (i : Nat) x r v ys σ H H', l.drop i = x :: r → l[i]? = some x → P (x :: r) ys σ H → Y i H v H' → g v σ H' fun σ2 H2 => tb { D with nx := P r, ct := P r, bk := D.nx } ys σ2 H2) (hd : ∀ ys σ H, P [] ys σ H → D.nx ys σ H) : GB J g tb D ys σ H := by
  refine ⟨fun i m ys σ H => m = n - i ∧ i ≤ n ∧ P (l.drop i) ys σ H, ⟨n, by simp, Nat.zero_le _, h0⟩, ?_⟩
  rintro i m ys σ H ⟨rfl, hi, p⟩
  have q := hG _ _ _ _ p
  by_cases hlt : i < n
  · have hi' : i < l.length := by omega
    have e : l.drop i = l[i] :: l.drop (i + 1) := List.drop_eq_getElem_cons hi'
    have p' : P (l[i] :: l.drop (i + 1)) ys σ H := e ▸ p
    exact .inr ⟨w.goes i H hlt q, P (l.drop (i + 1)), fun ys' σ' H' z => ⟨n - (i + 1), by omega, rfl, hlt, z⟩, fun x H' y => hs i l[i] (l.drop (i + 1)) x ys σ H H' e (List.getElem?_eq_getElem hi') p' (w.yields i H x H' hlt q y)⟩
  · have e : i = n := by omega
    subst e
    rw [← hl, List.drop_length] at p
    exact .inl ⟨w.stops H q, hd ys σ H p⟩
theorem gloopR {n : Nat} (P : List Int → List V → St → Hp → Prop) (h0 : P (rangeI 0 n) ys σ H) (hs : ∀ k r ys σ H, P (k :: r) ys σ H → g (.int k) σ H fun σ2 H2 => tb { D with nx := P r, ct := P r, bk := D.nx } ys σ2 H2)
    (hd : ∀ ys σ H, P [] ys σ H → D.nx ys σ H) : GB (Itr 0 n) g tb D ys σ H := by
  refine gloopW walk_range (rangeI 0 n) (rangeI_len _ _) P h0 (fun _ _ _ _ _ => trivial) (fun i x r v ys σ H H' e ex h y => ?_) hd
  obtain ⟨rfl, rfl⟩ := y
  have hx : x = 0 + (i : Nat) := by
    unfold rangeI at ex
    rw [List.getElem?_map] at ex
    cases q : (List.range n)[i]? with
    | none => rw [q] at ex; cases ex
    | some j =>
      rw [q] at ex
      have hj : j = i := by
        obtain ⟨hlt, hj⟩ := List.getElem?_eq_some_iff.mp q
        simpa using hj.symm
      subst hj
      exact (Option.some.inj ex).symm
  subst hx
  exact hs _ r ys σ H' h
theorem gloopL {α : Type} [Enc α] {B : Hp} {a : Addr} {ws : List V} {l : List α} (he : EncL K B ws l) (P : List α → List V → St → Hp → Prop) (h0 : P l ys σ H) (hG : ∀ r ys σ H, P r ys σ H → H a = some (.lst ws))
    (hs : ∀ x r v ys σ H, P (x :: r) ys σ H → enc K B v x → g v σ H fun σ2 H2 => tb { D with nx := P r, ct := P r, bk := D.nx } ys σ2 H2) (hd : ∀ ys σ H, P [] ys σ H → D.nx ys σ H) : GB (Itl K a) g tb D ys σ H := by
  refine gloopW walk_list l he.len.symm P h0 (fun r ys σ H h => SqL.of (hG r ys σ H h)) (fun i x r v ys σ H H' e ex h y => ?_) hd
  obtain ⟨rfl, hv⟩ := y
  obtain ⟨v', h1, h2⟩ := he.get ex
  have := Option.some.inj (hv.symm.trans h1)
  subst this
  exact hs x r v ys σ H' h h2
/-! two walks -/
theorem glc2L (h : tl σ H fun v H1 => ∃ a, v = .ref a ∧ (∃ xs, SqL K H1 a xs) ∧ ∀ D, H1 D = none → LB2 (Itl K a) g tt wi1 g1 tt1 te vs vs1 σ H1 D Q) : tLc2 (iList K tl) g tt wi1 g1 tt1 te vs vs1 σ H Q := h
theorem lc2L {α : Type} [Enc α] {B : Hp} {a : Addr} {ws : List V} {l : List α} (he : EncL K B ws l) (P : List α → Hp → Prop) (h0 : P l (upd H1 Dd (.lst []))) (hG : ∀ r H, P r H → H a = some (.lst ws))
    (hs : ∀ x r v H, P (x :: r) H → enc K B v x → g v (wipe σ vs) H fun σ2 H2 => wipe σ2 vs = wipe σ vs ∧ tt σ2 H2 fun b H3 => if b = true then wi1 σ2 H3 (IB g1 tt1 te vs1 σ2 Dd (P r)) else P r H3)
    (hd : ∀ H, P [] H → Q (.ref Dd) H) : LB2 (Itl K a) g tt wi1 g1 tt1 te vs vs1 σ H1 Dd Q := by
  refine ⟨fun i m H => m = l.length - i ∧ i ≤ l.length ∧ P (l.drop i) H, ⟨l.length, by simp, Nat.zero_le _, h0⟩, ?_⟩
  rintro i m H ⟨rfl, hi, p⟩
  have q := SqL.of (K := K) (hG _ _ p)
  have w := walk_list (K := K) (a := a) (xs := ws)
  by_cases hlt : i < l.length
  · have e : l.drop i = l[i] :: l.drop (i + 1) := List.drop_eq_getElem_cons hlt
    have p' : P (l[i] :: l.drop (i + 1)) H := e ▸ p
    refine .inr ⟨w.goes i H (he.len ▸ hlt) q, P (l.drop (i + 1)), fun H' z => ⟨l.length - (i + 1), by omega, rfl, hlt, z⟩, fun x H' y => ?_⟩
    obtain ⟨rfl, hv⟩ := w.yields i H x H' (he.len ▸ hlt) q y
    obtain ⟨v', h1, h2⟩ := he.get (List.getElem?_eq_getElem hlt)
    have := Option.some.inj (hv.symm.trans h1)
    subst this
    exact hs l[i] (l.drop (i + 1)) x H' p' h2
  · have e : i = l.length := by omega
    subst e
    rw [List.drop_length] at p
    have st := w.stops H q
    rw [he.len] at st
    exact .inl ⟨st, hd H p⟩
theorem ib_S {z : Tx} (P : Tx → Hp → Prop) (h0 : P z H4)
    (hs : ∀ c r H, P (c :: r) H → g1 (.str (mkS [c])) (wipe σ vs1) H fun σ3 H5 => wipe σ3 vs1 = wipe σ vs1 ∧ tt1 σ3 H5 fun b H6 => if b = true then te σ3 H6 (nA Dd (P r)) else P r H6)
    (hd : ∀ H, P [] H → N H) : IB g1 tt1 te vs1 σ Dd N (Its (mkS z)) H4 := by
  have w := walk_str (z := mkS z)
  have hl : (mkS z).length = z.length := mkS_len z
  refine ⟨fun i m H => m = z.length - i ∧ i ≤ z.length ∧ P (z.drop i) H, ⟨z.length, by simp, Nat.zero_le _, h0⟩, ?_⟩
  rintro i m H ⟨rfl, hi, p⟩
  by_cases hlt : i < z.length
  · have e : z.drop i = z[i] :: z.drop (i + 1) := List.drop_eq_getElem_cons hlt
    have p' : P (z[i] :: z.drop (i + 1)) H := e ▸ p
    refine .inr ⟨w.goes i H (by simpa [mkS] using hlt) trivial, P (z.drop (i + 1)), fun H' y => ⟨z.length - (i + 1), by omega, rfl, hlt, y⟩, fun x H' y => ?_⟩
    obtain ⟨rfl, c, hc, rfl⟩ := w.yields i H x H' (by simpa [mkS] using hlt) trivial y
    have hc' : z[i]? = some c := by simpa [mkS] using hc
    have := Option.some.inj (hc'.symm.trans (List.getElem?_eq_getElem hlt))
    subst this
    exact hs _ (z.drop (i + 1)) H' p'
  · have e : i = z.length := by omega
    subst e
    rw [List.drop_length] at p
    have st := w.stops H trivial
    have el : (mkS z).cps.size = z.length := by simp [mkS]
    refine .inl ⟨?_, hd H p⟩
    first | (rw [el] at st; exact st) | (rw [hl] at st; exact st) | simpa [mkS] using st
theorem gstr1 {R : It → Hp → Prop} (h : te σ H fun v H1 => ∃ x, v = .str x ∧ R (Its x) H1) : iStr te σ H R := h
end
/-! rows_up_to -/
def upC (row : Tx) : Tx → List Tx → Option (List Tx)
  | [], acc => some acc
  | c :: cs, acc => (catS row [c]).bind fun t => (appL acc t).bind fun l => upC row cs l
def upL (signs : Tx) : List Tx → List Tx → Option (List Tx)
  | [], acc => some acc
  | r :: rs, acc => (upC r signs acc).bind fun l => upL signs rs l
def upY : List Tx → List Tx → Option (List Tx)
  | [], out => some out
  | r :: rs, out => (appL out r).bind fun l => upY rs l
def upG (signs : Tx) : List Int → List Tx → List Tx → Option (List Tx)
  | [], _, out => some out
  | k :: rem, level, out => (bif decide (0 < k) then upL signs level [] else some level).bind fun l2 => (upY l2 out).bind fun o2 => upG signs rem l2 o2
def m_rows_up_to (signs : Tx) (longest : Int) : Option (List Tx) := (rngI (longest + 1)).bind fun _ => upG signs (rangeI 0 (longest + 1).toNat) [tx ""] []
def sp_rows_up_to (K : KF) : SpG := fun vs H Q _ => ∃ (signs : Tx) (longest : Int) (B : Hp) (r : List Tx), vs = [.str (mkS signs), .int longest] ∧ Same B H ∧ m_rows_up_to signs longest = some r ∧ ∀ out H' B', Aft [] B H B' H' → EncL K B' out r → Q out H'
theorem glistG {sp : SpG} {dvs : List V} {E : XK} {t : TA} {σ : St} {H : Hp} {Q : VK} (h : t σ H fun vs H1 => sp (vs ++ dvs) H1 (fun out H2 => ∀ p, H2 p = none → Q (.ref p) (upd H2 p (.lst out))) E) : tListG (tCallG sp dvs E t) σ H Q := h
theorem noPass {X : Cx} : Passes (CX X.prog X.w) X E0 := fun _ _ _ _ _ _ _ h => by
  obtain ⟨_, _, _, _, _, _, _, _, _, _, _, _, z⟩ := h
  exact z.elim
theorem noStop0 {K : KF} : NoStop K E0 := fun _ _ _ h => h.elim
end Sg
/-! SgNew: the law's state made; isinstance by kind; deep sameness -/
namespace Sg
open Enc (enc)
open ToD (toD)
open PySem PySem.Spec PyProof.Rows L2
def sp_law_new (K : KF) : Sp := fun vs H Q _ => ∃ (a : Addr) (cs : List Int) (B : Hp), vs = [.ref a] ∧ Same B H ∧ SqL K H a (cs.map V.int) ∧ ∀ sa cl H' B', Aft [] B H B' H' → H' sa = some (lsO cl (LS.mk 0 0 0 0)) → B' sa = none → H sa = none → B' cl = some (.lst (cs.map V.int)) → Q (.ref sa) H'
theorem r_new {K : KF} {B H : Hp} {a : Addr} {cs : List Int} {Q : VK} (W : Wd H [] B B H []) (hS : SqL K H a (cs.map V.int))
    (k : ∀ sa cl H' B', Aft [] B H B' H' → H' sa = some (lsO cl (LS.mk 0 0 0 0)) → B' sa = none → H sa = none → B' cl = some (.lst (cs.map V.int)) → Q (.ref sa) H') :
    rListL K [.ref a] H fun v H1 => nL Q [v, .int 0, .int 0, .int 0, .int 0] H1 := by
  refine ⟨a, _, rfl, .inl hS, fun l hl => ⟨by show 5 ≤ sizeLine; decide, fun p hp => ?_⟩⟩
  obtain ⟨B1, W1, s1, h1⟩ := W.new (o := .lst (cs.map V.int)) hl
  have W2 := W1.newO (o := lsO l (LS.mk 0 0 0 0)) hp
  have W3 := W2.drop0 (by simp)
  have e0 : H p = none := by
    by_cases e : p = l
    · rw [e, upd_same] at hp
      cases hp
    · rw [upd_ne e] at hp
      exact hp
  exact k p l _ B1 W3.aft (W2.got 0 rfl) (W2.nb 0 rfl) e0 h1
/-! isinstance -/
theorem kb_bool_bool : kitB "bool" "bool" = some true := by decide +kernel
theorem kb_bool_int : kitB "bool" "int" = some true := by decide +kernel
theorem kb_bool_str : kitB "bool" "str" = some false := by decide +kernel
theorem kb_bool_list : kitB "bool" "list" = some false := by decide +kernel
theorem kb_bool_tuple : kitB "bool" "tuple" = some false := by decide +kernel
theorem kb_int_bool : kitB "int" "bool" = some false := by decide +kernel
theorem kb_int_int : kitB "int" "int" = some true := by decide +kernel
theorem kb_int_str : kitB "int" "str" = some false := by decide +kernel
theorem kb_int_list : kitB "int" "list" = some false := by decide +kernel
theorem kb_int_tuple : kitB "int" "tuple" = some false := by decide +kernel
theorem kb_str_bool : kitB "str" "bool" = some false := by decide +kernel
theorem kb_str_int : kitB "str" "int" = some false := by decide +kernel
theorem kb_str_str : kitB "str" "str" = some true := by decide +kernel
theorem kb_str_list : kitB "str" "list" = some false := by decide +kernel
theorem kb_str_tuple : kitB "str" "tuple" = some false := by decide +kernel
theorem kb_list_bool : kitB "list" "bool" = some false := by decide +kernel
theorem kb_list_int : kitB "list" "int" = some false := by decide +kernel
theorem kb_list_str : kitB "list" "str" = some false := by decide +kernel
theorem kb_list_list : kitB "list" "list" = some true := by decide +kernel
theorem kb_list_tuple : kitB "list" "tuple" = some false := by decide +kernel
theorem kb_tuple_bool : kitB "tuple" "bool" = some false := by decide +kernel
theorem kb_tuple_int : kitB "tuple" "int" = some false := by decide +kernel
theorem kb_tuple_str : kitB "tuple" "str" = some false := by decide +kernel
theorem kb_tuple_list : kitB "tuple" "list" = some false := by decide +kernel
theorem kb_tuple_tuple : kitB "tuple" "tuple" = some true := by decide +kernel
theorem kb_NoneType_bool : kitB "NoneType" "bool" = some false := by decide +kernel
theorem kb_NoneType_int : kitB "NoneType" "int" = some false := by decide +kernel
theorem kb_NoneType_str : kitB "NoneType" "str" = some false := by decide +kernel
theorem kb_NoneType_list : kitB "NoneType" "list" = some false := by decide +kernel
theorem kb_NoneType_tuple : kitB "NoneType" "tuple" = some false := by decide +kernel
section
variable {K : KF} {H : Hp} {Q : VK} {x : V} {a : Addr} {xs : List V}
def rIsN : R2 := fun x y H Q => y = .non ∧ Q (.bl (decide (x = .non))) H
theorem op_isN' {X : Cx} : OpR X (compareOp .Is) rIsN := op_isN
theorem r_isN0 (h : x ≠ .non) (q : Q (.bl false) H) : rIsN x .non H Q := ⟨rfl, by rw [decide_eq_false h]; exact q⟩
theorem r_isN1 (q : Q (.bl true) H) : rIsN .non .non H Q := ⟨rfl, by rw [decide_eq_true rfl]; exact q⟩
theorem r_eqStr {z : Str} (q : Q (.bl true) H) : rEq (.str z) (.str z) H Q := ⟨rfl, by rw [decide_eq_true rfl]; exact q⟩
theorem r_isi {t u : String} {b : Bool} (ty : TyX K H x (.type t)) (h : kitB t u = some b) (q : Q (.bl b) H) : rIsi K [x, .ty u] H Q := ⟨x, .ty u, _, _, b, rfl, .ty u, ty, kit_ty h, q⟩
theorem tyL (h : SqL K H a xs) : TyX K H (.ref a) (.type "list") := by
  rcases h with (h | ⟨o, h⟩) | ⟨o, its, n, hk, hc, _⟩
  · exact .base (.lst h)
  · exact .base (.frz h)
  · exact .kList hk hc
theorem tyT (h : SqT K H a xs) : TyX K H (.ref a) (.type "tuple") := by
  rcases h with (h | ⟨o, h⟩) | ⟨o, its, n, hk, hc, _⟩
  · exact .base (.tup h)
  · exact .fTuple h
  · exact .kTuple hk hc
end
/-! deep sameness -/
def okD : Nat → PyData → Prop
  | 0, _ => False
  | _ + 1, .none => True
  | _ + 1, .bool _ => True
  | _ + 1, .int _ => True
  | _ + 1, .str _ => True
  | n + 1, .list ds => ds.length < 2 ^ 62 ∧ ∀ d ∈ ds, okD n d
  | n + 1, .tuple ds => ds.length < 2 ^ 62 ∧ ∀ d ∈ ds, okD n d
  | _ + 1, .dict _ => False
open Classical in
noncomputable def m_law_same (a b : PyData) : Option Bool := if a = b ∧ okD 7 b then some true else none
theorem m_law_same_ok {a b : PyData} {r : Bool} (h : m_law_same a b = some r) : a = b ∧ okD 7 b ∧ r = true := by
  unfold m_law_same at h
  split at h
  · rename_i hc
    cases Option.some.inj h
    exact ⟨hc.1, hc.2, rfl⟩
  · cases h
theorem m_law_same_self {b : PyData} (h : okD 7 b) : m_law_same b b = some true := by
  unfold m_law_same
  rw [if_pos ⟨rfl, h⟩]
def spS (K : KF) (n : Nat) : Sp := fun vs H Q _ => ∃ (x : PyData) (v u : V) (B : Hp), vs = [v, u] ∧ Same B H ∧ Dp K B v x ∧ Dp K B u x ∧ okD n x ∧ ∀ H' B', Aft [] B H B' H' → Q (.bl true) H'
def sp_law_same (K : KF) : Sp := fun vs H Q _ => ∃ (actual : PyData) (due : PyData) (v_actual : V) (v_due : V) (B : Hp) (r : Bool), vs = [v_actual, v_due] ∧ Same B H ∧ enc K B v_actual actual ∧ enc K B v_due due ∧ m_law_same actual due = some r ∧ ∀ v H' B', Aft [] B H B' H' → enc K B' v r → Q v H'
theorem spS_of {K : KF} {vs : List V} {H : Hp} {Q : VK} {E : XK} (h : sp_law_same K vs H Q E) : spS K 7 vs H Q E := by
  obtain ⟨a, b, v, u, B, r, rfl, s, e1, e2, hm, k⟩ := h
  obtain ⟨rfl, ok, rfl⟩ := m_law_same_ok hm
  exact ⟨_, _, _, B, rfl, s, e1, e2, ok, fun H' B' A => k _ _ _ A rfl⟩
theorem DpAll.len {K : KF} {B : Hp} : ∀ {vs : List V} {ds : List PyData}, DpAll K B vs ds → vs.length = ds.length
  | _, _, .nil => rfl
  | _, _, .cons _ t => congrArg (· + 1) (DpAll.len t)
theorem DpAll.get {K : KF} {B : Hp} : ∀ {vs : List V} {ds : List PyData} {i : Nat} {d : PyData}, DpAll K B vs ds → ds[i]? = some d → ∃ v, vs[i]? = some v ∧ Dp K B v d
  | _, _, 0, _, .cons h _, e => by
    cases Option.some.inj e
    exact ⟨_, rfl, h⟩
  | _, _, i + 1, _, .cons _ t, e => DpAll.get (i := i) t (by simpa using e)
theorem atI_nat {α : Type} {l : List α} {i : Nat} {x : α} (h : l[i]? = some x) : atI l (i : Int) = some x := by
  obtain ⟨hi, _⟩ := List.getElem?_eq_some_iff.mp h
  unfold atI ixN
  rw [if_pos (by omega), if_pos (by omega)]
  exact h
section
variable {σ : St} {H : Hp} {Q : VK} {K : KF} {D : Ends}
theorem rIx_lst {x : V} {i : Int} (h : rIxL K x (.int i) H Q) : rIx K x (.int i) H Q := .inl h
theorem rIx_tup {x : V} {i : Int} (h : rIxT K x (.int i) H Q) : rIx K x (.int i) H Q := .inr (.inl h)
/-- the walk over two sequences of the same data -/
theorem same_loop {B H0 B0 : Hp} {n : Nat} {ds : List PyData} {xs ys : List V} {tb : TS} (hl : ds.length < 2 ^ 62) (W : Wd H0 [] B0 B H [])
    (ok : ∀ d ∈ ds, okD n d) (hx : DpAll K B xs ds) (hy : DpAll K B ys ds) {v u : V} {o : Option V}
    (turn : ∀ (i : Nat) (d : PyData) (x y : V) (N : St → Hp → Prop) (B' H' : Hp) (o : Option V), Wd H0 [] B0 B' H' [] → Same B B' → atI xs (i : Int) = some x → atI ys (i : Int) = some y → Dp K B' x d → Dp K B' y d → okD n d →
      (∀ B2 H2, Wd H0 [] B0 B2 H2 [] → Same B B2 → N [some v, some u, some (.int (i : Int))] H2) → tb { D with nx := N, ct := N, bk := D.nx } [some v, some u, some (.int (i : Int))] H')
    (hd : ∀ (o : Option V) B' H', Wd H0 [] B0 B' H' [] → Same B B' → D.nx [some v, some u, o] H') :
    FB (Itr 0 ds.length) (gName 2) tb D [some v, some u, o] H := by
  refine loopR (lo := 0) (n := ds.length) (fun rem σ H => ∃ (o : Option V) (B' : Hp) (k : Nat), σ = [some v, some u, o] ∧ Wd H0 [] B0 B' H [] ∧ Same B B' ∧ k ≤ ds.length ∧ rem = (rangeI 0 ds.length).drop k) ⟨_, _, 0, rfl, W, Same.refl _, Nat.zero_le _, rfl⟩ ?_ ?_
  · rintro x rem σ H1 ⟨o, B1, k, rfl, W1, s1, hk, e⟩
    have hlt : k < ds.length := by
      rcases Nat.lt_or_ge k ds.length with h | h
      · exact h
      · rw [List.drop_eq_nil_of_le (by rw [rangeI_len]; exact h)] at e
        cases e
    have hlt' : k < (rangeI 0 ds.length).length := by rw [rangeI_len]; exact hlt
    rw [List.drop_eq_getElem_cons hlt'] at e
    have e1 := (List.cons.inj e).1
    have e2 := (List.cons.inj e).2
    have ex : x = (k : Int) := by
      rw [e1]
      simp [rangeI]
    subst ex
    obtain ⟨y1, h1, d1⟩ := DpAll.get hx (i := k) (List.getElem?_eq_getElem hlt)
    obtain ⟨y2, h2, d2⟩ := DpAll.get hy (i := k) (List.getElem?_eq_getElem hlt)
    refine gnm (turn k ds[k] y1 y2 _ B1 H1 o W1 s1 (atI_nat h1) (atI_nat h2) (Dp.up s1 d1) (Dp.up s1 d2) (ok _ (List.getElem_mem hlt)) fun B2 H2 W2 s2 => ?_)
    exact ⟨_, B2, k + 1, rfl, W2, s2, hlt, e2⟩
  · rintro σ H1 ⟨o, B1, k, rfl, W1, s1, hk, e⟩
    exact hd o B1 H1 W1 s1
end
end Sg
/-! SgHead: what the head's run tells of the error classes -/
namespace Sg
open Enc (enc)
open ToD (toD)
open PySem PySem.Spec PyProof.Rows L2 He
def oexB (K : KF) (C : Addr) : Bool := match K.lookup C with
  | some ⟨.type t, _, .cls cd, sl⟩ => decide (t = "type") && (match cd.mro, sl.toList with
    | .ref C' :: bm, [_, _, _, _, some (.builtin n), _] => decide (C' = C) && (decide (n = "ValueError.__new__") && (!cd.hasDel && (cd.hasDict && PySem.HandSPX.refsVE bm)))
    | _, _ => false)
  | _ => false
theorem oexB_ok {K : KF} {C : Addr} (q : oexB K C = true) : ∃ nm q N bs bm sn sub ab col dd k0 k1 k2 k3 k5, K.lookup C = some (excClassObj nm q C N bs bm true sn sub ab col dd k0 k1 k2 k3 k5 "ValueError.__new__") ∧ PySem.HandSPX.refsVE bm = true := by
  unfold oexB at q
  split at q
  · rename_i t dd cd sl ho
    split at q
    · rename_i C' bm k0 k1 k2 k3 n k5 hm hs
      obtain ⟨q0, q1⟩ := ba q
      have e0 := of_decide_eq_true q0
      clear q
      subst e0
      obtain ⟨h1, q2⟩ := ba q1
      obtain ⟨h2, q3⟩ := ba q2
      obtain ⟨h3, q4⟩ := ba q3
      obtain ⟨h4, h5⟩ := ba q4
      have e1 := of_decide_eq_true h1
      have e2 := of_decide_eq_true h2
      subst e1 e2
      obtain ⟨nm, bs, mro, ns, qn, hd, sn, sub, ab, col, del⟩ := cd
      dsimp only at hm h3 h4
      have e3 : del = false := by simpa using h3
      subst hm h4 e3
      have hsl : sl = #[k0, k1, k2, k3, some (.builtin "ValueError.__new__"), k5] := by
        obtain ⟨l⟩ := sl
        simp only at hs
        rw [hs]
      subst hsl
      exact ⟨nm, qn, ns, bs, bm, sn, sub, ab, col, dd, k0, k1, k2, k3, k5, ho, h5⟩
    · simp at q
  · cases q
/-- the function at __init__ -/
abbrev GnW : Type := Option (Str × Str × Arguments × FuncBody × Scope × Addr × List Str × Addr)
def gnW (K : KF) (C : Addr) : GnW := match PySem.W.findIn K (.ref C) "__init__" with
  | some (some (.ref f)) => (match K.lookup f with
    | some ⟨_, _, .func fd, _⟩ => some (fd.name, fd.qualname, fd.params, fd.body, fd.scope, fd.globals, fd.closure.map (·.1), fd.builtins)
    | _ => none)
  | _ => none
def gnV (st : Stmt) : GnW := some ("__init__", "GrowsError.__init__", defArgs st, .stmts (defBody st), defScope st, mainGlobals, ["__class__"], builtinsNs)
def giB (P : Program) (K : KF) (C : Addr) : Bool := match PySem.W.findIn K (.ref C) "__init__" with
  | some (some (.ref f)) => decide (PySem.W.typeIn K (.ref f) = some (.type "function")) && (match K.lookup f with
    | some ⟨_, _, .func fd, _⟩ => (match fd.defaults with
        | .none => true
        | _ => false) && ((match fd.code with
        | .ref cda => PySem.W.codeIn K (.ref cda) "GrowsError.__init__" && (match K.lookup cda with
          | some ⟨_, _, .fields vs, _⟩ => (match (vs[2]? : Option Value) with
            | some (.str file _) => (P.main.file : Str) == file
            | _ => false)
          | _ => false)
        | _ => false) && (match fd.closure with
        | [(_, cc)] => (match K.lookup cc with
          | some ⟨_, _, .cell (some (.ref D)), _⟩ => (PySem.W.clsIn K D).isSome && (decide (PySem.W.mroIn K C (.ref D) = some true) && eqO (PySem.W.ks_superIn K C D "__init__") (some (some (.builtin "ValueError.__init__"))))
          | _ => false)
        | _ => false))
    | _ => false)
  | _ => false
/-- the text of GrowsError.__init__ is the one that SgExc walks -/
structure GiT (st : Stmt) : Prop where
  ex : ∃ q : GiPos, defArgs st = giArgs q ∧ defBody st = giBody q ∧ defScope st = giScope ∧ q.p7.endLine = q.p11.line
theorem gi_ok {P : Program} {K : KF} {C : Addr} {st : Stmt} (t : GiT st) (e : gnW K C = gnV st) (h : giB P K C = true) :
    ∃ (fI D cda cc : Addr) (q : GiPos) (oc kV doc pm ct ccl cl : Value) (od an cdd cld : Option Addr) (osl ccs csl : Array (Option Value)) (vs : Array Value) (file : Str) (tf : Tok) (cdD : ClassData),
    PySem.W.findIn K (.ref C) "__init__" = some (some (.ref fI)) ∧ PySem.W.typeIn K (.ref fI) = some (.type "function") ∧
    K.lookup fI = some ⟨oc, od, .func (giFn q kV doc pm an cda ct cc), osl⟩ ∧ PySem.W.codeIn K (.ref cda) "GrowsError.__init__" = true ∧
    K.lookup cda = some ⟨ccl, cdd, .fields vs, ccs⟩ ∧ vs[2]? = some (.str file tf) ∧ ((P.main.file : Str) == file) = true ∧
    K.lookup cc = some ⟨cl, cld, .cell (some (.ref D)), csl⟩ ∧ PySem.W.clsIn K D = some cdD ∧ PySem.W.mroIn K C (.ref D) = some true ∧
    PySem.W.ks_superIn K C D "__init__" = some (some (.builtin "ValueError.__init__")) ∧ q.p7.endLine = q.p11.line := by
  obtain ⟨q, t1, t2, t3, t4⟩ := t.ex
  have ff : ∀ {b : Bool}, b = false → b = true → False := fun h1 h2 => by rw [h1] at h2; cases h2
  unfold gnW gnV at e
  unfold giB at h
  cases hf : PySem.W.findIn K (.ref C) "__init__" with
  | none => rw [hf] at h; cases h
  | some o1 =>
    rw [hf] at h e
    cases o1 with
    | none => cases h
    | some v1 =>
      cases v1 with
      | ref f =>
        dsimp only at h e
        obtain ⟨h1, h⟩ := ba h
        cases hl : K.lookup f with
        | none => rw [hl] at h; cases h
        | some o2 =>
          obtain ⟨oc, od, dt, osl⟩ := o2
          rw [hl] at h e
          cases dt with
          | func fd =>
            dsimp only at h e
            obtain ⟨h2, h⟩ := ba h
            obtain ⟨h3, h4⟩ := ba h
            obtain ⟨n1, n2, n3, n4, n5, n6, n7, n8, n9, n10, n11, n12, n13, n14, n15⟩ := fd
            simp only [Option.some.injEq, Prod.mk.injEq] at e
            obtain ⟨e1, e2, e3, e4, e5, e6, e7, e8⟩ := e
            dsimp only at h2 h3 h4
            subst e1 e2 e6 e8
            rw [t1] at e3
            rw [t2] at e4
            rw [t3] at e5
            subst e3 e4 e5
            cases n8 with
            | none =>
              cases n13 with
              | ref cda =>
                dsimp only at h3
                obtain ⟨h5, h6⟩ := ba h3
                cases hc : K.lookup cda with
                | none => rw [hc] at h6; cases h6
                | some o3 =>
                  obtain ⟨ccl, cdd, dt3, ccs⟩ := o3
                  rw [hc] at h6
                  cases dt3 with
                  | fields vs =>
                    dsimp only at h6
                    cases hv : (vs[2]? : Option Value) with
                    | none => rw [hv] at h6; cases h6
                    | some v3 =>
                      rw [hv] at h6
                      cases v3 with
                      | str file tf =>
                        dsimp only at h6
                        cases n7 with
                        | nil => cases h4
                        | cons p r =>
                          obtain ⟨nn, cc⟩ := p
                          cases r with
                          | cons _ _ => exact (ff rfl h4).elim
                          | nil =>
                            have en : nn = "__class__" := by simpa using e7
                            subst en
                            dsimp only at h4
                            cases hcc : K.lookup cc with
                            | none => rw [hcc] at h4; cases h4
                            | some o4 =>
                              obtain ⟨cl, cld, dt4, csl⟩ := o4
                              rw [hcc] at h4
                              cases dt4 with
                              | cell ov =>
                                cases ov with
                                | none => cases h4
                                | some v4 =>
                                  cases v4 with
                                  | ref D =>
                                    dsimp only at h4
                                    obtain ⟨h7, h8⟩ := ba h4
                                    obtain ⟨h9, h10⟩ := ba h8
                                    obtain ⟨cdD, hD⟩ := Option.isSome_iff_exists.mp h7
                                    exact ⟨f, D, cda, cc, q, oc, n9, n10, n11, n14, ccl, cl, od, n12, cdd, cld, osl, ccs, csl, vs, file, tf, cdD, rfl, of_decide_eq_true h1, hl, h5, hc, hv, h6, hcc, hD, of_decide_eq_true h9, eqO_ok h10, t4⟩
                                  | _ => cases h4
                              | _ => cases h4
                      | _ => cases h6
                  | _ => cases h6
              | _ => cases h3
            | _ => cases h2
          | _ => cases h
      | _ => cases h
def ecB (K : KF) (C : Addr) : Bool := eqO (PySem.W.findIn K (.ref C) "__getattribute__") (some (some (.builtin "BaseException.__getattribute__"))) && (eqO (PySem.W.findIn K (.ref C) "__getattr__") (some none) && (decide (PySem.W.subIn K (.ref C) (.type "BaseException") = some true) && (PySem.W.hasDictIn K C &&
  (eqO (PySem.W.findIn K (.ref C) "__class__") (some (some (.builtin "object.__class__"))) && (eqO (PySem.W.specialIn K (.builtin "object.__class__") "__get__") (some (some (.builtin "getset_descriptor.__get__"))) && (decide (PySem.W.takesIn K (.builtin "object.__class__") = some true) && decide (PySem.W.mroIn K C (.type "object") = some true)))))))
theorem ec_ok {K : KF} {C : Addr} (h : ecB K C = true) : ExcC K C := by
  unfold ecB at h
  obtain ⟨h1, h⟩ := ba h
  obtain ⟨h2, h⟩ := ba h
  obtain ⟨h3, h⟩ := ba h
  obtain ⟨h4, h⟩ := ba h
  obtain ⟨h5, h⟩ := ba h
  obtain ⟨h6, h⟩ := ba h
  obtain ⟨h7, h8⟩ := ba h
  exact ⟨eqO_ok h1, eqO_ok h2, of_decide_eq_true h3, h4, eqO_ok h5, eqO_ok h6, of_decide_eq_true h7, of_decide_eq_true h8⟩
/-- one error class -/
def erB (P : Program) (K : KF) (C : Addr) : Bool := oexB K C && (eqO (PySem.W.findIn K (.ref C) "__setattr__") (some (some (.builtin "object.__setattr__"))) && (decide (PySem.W.subIn K (.ref C) (.type "BaseException") = some true) && (decide (PySem.W.typeIn K (.ref C) = some (.type "type")) && (PySem.W.keepIn K (.ref C) &&
  (giB P K C && (eqO (PySem.W.findIn K (.ref C) "value") (some none) && (decide (PySem.W.subIn K (.ref C) (.type "ValueError") = some true) && (eqO (PySem.W.nsIn K cStatics "thirdparty.any") (some none) && (eqO (PySem.W.nsIn K mainGlobals "super") (some none) && (eqO (PySem.W.nsIn K mainGlobals "repr") (some none) &&
  (!(P.main.scope.names.lookup ("super" : Str)).isSome && (decide (PySem.W.kitOne K (.ref C) (.type "ValueError") = some true) && ecB K C))))))))))))
def prB (K : KF) (s c : String) : Bool := decide (PySem.W.kitOne K (.ref (ga K (Str.ofString s))) (.ref (ga K (Str.ofString c))) = some (subE s c)) && decide (PySem.W.exmOne K (.ref (ga K (Str.ofString s))) (.ref (ga K (Str.ofString c))) = some (subE s c))
def errB (P : Program) (errs : List String) (K : KF) : Bool := errs.all fun s => erB P K (ga K (Str.ofString s)) && (eqO (PySem.W.nsIn K mainGlobals (Str.ofString s)) (some (some (.ref (ga K (Str.ofString s))))) && errs.all fun c => prB K s c)
theorem er_ok {P : Program} {K : KF} {C : Addr} {st : Stmt} (t : GiT st) (e : gnW K C = gnV st) (h : erB P K C = true) : GiC P K C ∧ PySem.W.kitOne K (.ref C) (.type "ValueError") = some true ∧ ExcC K C := by
  unfold erB at h
  obtain ⟨h1, h⟩ := ba h
  obtain ⟨h2, h⟩ := ba h
  obtain ⟨h3, h⟩ := ba h
  obtain ⟨h4, h⟩ := ba h
  obtain ⟨h5, h⟩ := ba h
  obtain ⟨h6, h⟩ := ba h
  obtain ⟨h7, h⟩ := ba h
  obtain ⟨h8, h⟩ := ba h
  obtain ⟨h9, h⟩ := ba h
  obtain ⟨h10, h⟩ := ba h
  obtain ⟨h11, h⟩ := ba h
  obtain ⟨h12, h⟩ := ba h
  obtain ⟨h13, h14⟩ := ba h
  exact ⟨⟨⟨oexB_ok h1, eqO_ok h2, of_decide_eq_true h3, of_decide_eq_true h4, h5⟩, gi_ok t e h6, eqO_ok h7, of_decide_eq_true h8, eqO_ok h9, eqO_ok h10, eqO_ok h11, by simpa using h12⟩, of_decide_eq_true h13, ec_ok h14⟩
def errs_ok {P : Program} {K : KF} {errs : List String} {st : Stmt} {h : Heap} {mg : Str → Option Value} (X : K.In h) (G : h.Ns mainGlobals mg) (t : GiT st) (e : errs.map (fun s => gnW K (ga K (Str.ofString s))) = errs.map fun _ => gnV st) (q : errB P errs K = true) : Errs P K mg errs :=
  have eg : ∀ s ∈ errs, gnW K (ga K (Str.ofString s)) = gnV st := fun s hs => List.map_inj_left.mp e s hs
  have k1 : ∀ s ∈ errs, erB P K (ga K (Str.ofString s)) = true ∧ PySem.W.nsIn K mainGlobals (Str.ofString s) = some (some (.ref (ga K (Str.ofString s)))) ∧ ∀ c ∈ errs, prB K s c = true := fun s hs => by
    obtain ⟨a1, a2⟩ := ba (List.all_eq_true.mp q s hs)
    obtain ⟨a3, a4⟩ := ba a2
    exact ⟨a1, eqO_ok a3, fun c hc => List.all_eq_true.mp a4 c hc⟩
  { cl := fun s => ga K (Str.ofString s)
    gi := fun s hs => (er_ok t (eg s hs) (k1 s hs).1).1
    gl := fun s hs => PySem.W.mg_of X G (k1 s hs).2.1
    kit := fun s hs c hc => of_decide_eq_true (ba ((k1 s hs).2.2 c hc)).1
    kve := fun s hs => (er_ok t (eg s hs) (k1 s hs).1).2.1
    exm := fun s hs c hc => of_decide_eq_true (ba ((k1 s hs).2.2 c hc)).2
    ec := fun s hs => (er_ok t (eg s hs) (k1 s hs).1).2.2 }
/-! the Hook -/
abbrev AlS : Type := AlD × Bool × List GnW
def obsS (P : Program) (fa : List Fa) (fn : List DefD) (errs : List String) (K : KF) : AlS := (obsD fa fn K, errB P errs K, errs.map fun s => gnW K (ga K (Str.ofString s)))
def valS (fn : List DefD) (errs : List String) (st : Stmt) : AlS := (valD fn, true, errs.map fun _ => gnV st)
def asS (g : Addr → Option Obj) (n : Nat) : List Addr := asD g n ++ [cStatics]
def obsSG (P : Program) (n : Nat) (fa : List Fa) (fn : List DefD) (errs : List String) (g : Addr → Option Obj) : AlS := obsS P fa fn errs (frG g (asS g n))
def SaysS (P : Program) (fa : List Fa) (fn : List DefD) (errs : List String) (st : Stmt) (K : KF) : Prop := obsS P fa fn errs K = valS fn errs st
def hookS (P : Program) (n : Nat) (fa : List Fa) (fn : List DefD) (errs : List String) (st : Stmt) : PySem.W.Hook where
  α := AlS
  obs := fun s => obsSG P n fa fn errs s.heap.get?
  val := fun _ => valS fn errs st
  says := fun _ h => ∃ K : KF, K.In h ∧ SaysS P fa fn errs st K
  of := fun _ _ e => ⟨_, frG_in, e⟩
  keeps := fun _ _ _ ⟨K, hK, c⟩ k => ⟨K, PySem.W.Frag.In.keeps hK k, c⟩
theorem obsSG_eq {P : Program} {n : Nat} {fa : List Fa} {fn : List DefD} {errs : List String} {st : Stmt} {g : Addr → Option Obj} {s : Shared} (h : ∀ a, g a = s.heap.get? a) : obsSG P n fa fn errs g = (hookS P n fa fn errs st).obs s := by
  have e : g = s.heap.get? := funext h
  rw [e] <;> rfl
theorem SaysS.d {P : Program} {fa : List Fa} {fn : List DefD} {errs : List String} {st : Stmt} {K : KF} (c : SaysS P fa fn errs st K) : SaysD fa fn K := congrArg (fun z : AlS => z.1) c
def SaysS.errs {P : Program} {fa : List Fa} {fn : List DefD} {errs : List String} {st : Stmt} {K : KF} {h : Heap} {mg : Str → Option Value} (X : K.In h) (G : h.Ns mainGlobals mg) (t : GiT st) (c : SaysS P fa fn errs st K) : Errs P K mg errs :=
  errs_ok X G t (congrArg (fun z : AlS => z.2.2) c) (congrArg (fun z : AlS => z.2.1) c)
end Sg
/-! SgOk: plain mathematics of the mirrors -/
namespace Sg
open Enc (enc)
open ToD (toD)
open PySem PySem.Spec PyProof.Rows L2
def Ok {α : Type} (o : Option α) (P : α → Prop) : Prop := ∃ a, o = some a ∧ P a
section
variable {α β : Type} {o : Option α} {P P' : α → Prop} {Q : β → Prop}
theorem Ok.mk {a : α} (h : P a) : Ok (some a) P := ⟨a, rfl, h⟩
theorem Ok.bind {f : α → Option β} (h : Ok o P) (k : ∀ a, P a → Ok (f a) Q) : Ok (o.bind f) Q := by
  obtain ⟨a, rfl, h⟩ := h
  exact k a h
theorem Ok.imp (h : Ok o P) (k : ∀ a, P a → P' a) : Ok o P' := by
  obtain ⟨a, e, h⟩ := h
  exact ⟨a, e, k a h⟩
theorem Ok.bif {b : Bool} {x y : Option α} (h1 : b = true → Ok x P) (h2 : b = false → Ok y P) : Ok (bif b then x else y) P := by
  cases b with
  | true => exact h1 rfl
  | false => exact h2 rfl
theorem Ok.eq {a : α} (h : Ok o fun x => x = a) : o = some a := by
  obtain ⟨b, e, rfl⟩ := h
  exact e
theorem Ok.of {a : α} (e : o = some a) (h : P a) : Ok o P := ⟨a, e, h⟩
theorem Ok.cb {γ δ : Type} {x : Option (Ct γ δ)} {g : δ → Option β} {f : γ → Option β} (h : Ok x fun z => ∃ s, z = .nx s ∧ Ok (f s) Q) : Ok (cbind x g f) Q := by
  obtain ⟨a, rfl, s, rfl, h⟩ := h
  exact h
end
theorem sz : sizeLine = 16777216 := by decide
theorem ok_cat {a b : Tx} (h : a.length + b.length ≤ 16777216) : Ok (catS a b) fun z => z = a ++ b := by
  unfold catS
  rw [sz, if_pos h]
  exact .mk rfl
theorem ok_len {a : Tx} (h : a.length ≤ 16777216) : Ok (lenS a) fun z => z = (a.length : Int) := by
  unfold lenS
  rw [sz, if_pos h]
  exact .mk rfl
theorem ok_app {α : Type} {l : List α} {x : α} (h : l.length < 16777216) : Ok (appL l x) fun z => z = l ++ [x] := by
  unfold appL
  rw [sz, if_pos h]
  exact .mk rfl
theorem ok_catL {α : Type} [Enc α] {a b : List α} (h : a.length + b.length ≤ 16777216) : Ok (catL a b) fun z => z = a ++ b := by
  unfold catL
  rw [sz, if_pos h]
  exact .mk rfl
theorem ok_rng {j : Int} (h1 : -100000000 ≤ j) (h2 : j ≤ 100000000) : Ok (rngI j) fun _ => True := by
  unfold rngI
  rw [if_pos ⟨by omega, by omega⟩]
  exact .mk trivial
theorem ok_mod {i j : Int} (h : 0 < j) : Ok (modI i j) fun r => r = i % j := by
  unfold modI
  rw [if_pos h]
  exact .mk rfl
theorem ok_fdiv {i j : Int} (h : 0 < j) (h2 : j < 2 ^ 64) : Ok (fdivI i j) fun r => r = i / j := by
  unfold fdivI
  rw [if_pos ⟨h, (wide_div (i := i) (b := 64) h (by omega) (by omega) (by omega)).2⟩]
  exact .mk rfl
theorem ok_mul {i j : Int} (h : (-(2 ^ 64) < i ∧ i < 2 ^ 64) ∨ (-(2 ^ 64) < j ∧ j < 2 ^ 64)) : Ok (mulI i j) fun r => r = i * j := by
  unfold mulI
  rw [if_pos h]
  exact .mk rfl
theorem ok_at {α : Type} {l : List α} {i : Int} (h0 : 0 ≤ i) (h1 : i < l.length) : Ok (atI l i) fun x => l[i.toNat]? = some x := by
  unfold atI ixN
  rw [if_pos h0, if_pos h1]
  show Ok (l[i.toNat]?) _
  have hi : i.toNat < l.length := by omega
  rw [List.getElem?_eq_getElem hi]
  exact .mk rfl
theorem ok_ix {a : Tx} {i : Int} (h : a.length ≤ 16777216) (h0 : 0 ≤ i) (h1 : i < a.length) : Ok (ixS a i) fun x => a[i.toNat]? = some x := by
  unfold ixS
  rw [sz, if_pos h]
  exact ok_at h0 h1
theorem ok_sl {a : Tx} {lo hi : Option Int} (h : a.length ≤ 16777216) : Ok (slS a lo hi) fun z => z.length ≤ a.length ∧ ∀ c ∈ z, c ∈ a := by
  unfold slS
  rw [sz, if_pos h]
  refine .mk ⟨?_, fun c hc => ?_⟩
  · rw [List.length_take, List.length_drop]
    omega
  · exact List.mem_of_mem_drop (List.mem_of_mem_take hc)
theorem ok_rep {a : Tx} {n : Int} (h0 : 0 ≤ n) (h1 : n ≤ 100000) (h : a.length * n.toNat ≤ 16777216) : Ok (repS a n) fun z => z.length = a.length * n.toNat ∧ ∀ c ∈ z, c ∈ a := by
  unfold repS
  rw [sz, if_pos ⟨by omega, by omega, h⟩]
  refine .mk ⟨?_, fun c hc => ?_⟩
  · rw [List.length_flatten, List.map_replicate, List.sum_replicate_nat, Nat.mul_comm]
  · obtain ⟨l, hl, hc⟩ := List.mem_flatten.mp hc
    rw [(List.mem_replicate.mp hl).2] at hc
    exact hc
theorem ok_rev {a : Tx} (h : a.length ≤ 16777216) : Ok (revS a) fun z => z = a.reverse := by
  unfold revS
  rw [sz, if_pos h]
  exact .mk rfl
theorem ok_lst {a : Tx} (h : a.length ≤ 16777216) : Ok (lstS a) fun z => z = a.map Ch.mk := by
  unfold lstS
  rw [sz, if_pos h]
  exact .mk rfl
theorem ok_rpr {a : Tx} (h : a.length ≤ 100000) (ha : ∀ c ∈ a, c < 128) : Ok (rprS a) fun _ => True := by
  unfold rprS
  have e := StrLaws.reprText_len (mkS a) (fun c hc => by rw [mkS_list] at hc; exact Nat.lt_trans (ha c hc) (by decide))
  have e2 := mkS_len a
  rw [sz, if_pos (by omega)]
  exact .mk trivial
theorem find_one (a : Tx) (c : Nat) : findS a [c] < 0 ∨ (0 ≤ findS a [c] ∧ findS a [c] < a.length) := by
  unfold findS Txt.find
  cases e : Builtin.Str.occurrences (mkS a) (mkS [c]) 0 (mkS a).length 1 with
  | nil => exact .inl (by decide)
  | cons i r =>
    have h := (StrLaws.occ_spec (mkS a) (mkS [c]) 0 (mkS a).length 1 i (by rw [e]; exact List.mem_cons_self)).1
    rw [mkS_len, mkS_len] at h
    have h' : i + 1 ≤ a.length := by simpa using h
    refine .inr ⟨?_, ?_⟩
    · show (0 : Int) ≤ (i : Int)
      omega
    · show (i : Int) < a.length
      omega
theorem glue_nil : ∀ l : List Tx, glue [] l = l.flatten
  | [] => rfl
  | [x] => by simp [glue]
  | x :: y :: r => by
    show x ++ [] ++ glue [] (y :: r) = _
    rw [glue_nil (y :: r)]
    simp
theorem range_get (n : Nat) : rangeI 0 n = (List.range n).map fun (k : Nat) => (k : Int) := by
  unfold rangeI
  simp
theorem range_mem {n : Nat} {k : Int} (h : k ∈ rangeI 0 n) : 0 ≤ k ∧ k < n := by
  rw [range_get] at h
  obtain ⟨j, hj, rfl⟩ := List.mem_map.mp h
  have := List.mem_range.mp hj
  omega
theorem toD_tx (a : Tx) : toD (α := Tx) a = .str (mkS a) := rfl
end Sg
namespace Sg
open Enc (enc)
open ToD (toD)
open PySem PySem.Spec PyProof.Rows L2
def topS (i : Nat) : Stmt := PySem.Challenge.pw_stillgrows_k00_words_and_their_refusals.main.body.getD i (.Pass ⟨0, 0, 0, 0⟩)
def errs : List String := ["GrowsError", "InvalidSigns", "UnknownSign", "InvalidGroup"]
structure Gd (P : Program) (K : KF) (mg : Str → Option Value) where
  E : Errs P K mg errs
  z_len : mg "len" = none
  z_int : mg "int" = none
  z_list : mg "list" = none
  z_range : mg "range" = none
  z_isinstance : mg "isinstance" = none
  z_enumerate : mg "enumerate" = none
  z_bool : mg "bool" = none
  z_str : mg "str" = none
  z_tuple : mg "tuple" = none
  z_ValueError : mg "ValueError" = none
  z_super : mg "super" = none
  z_repr : mg "repr" = none
  c_LETTERS : ∃ t, mg "LETTERS" = some (.str "abcdefghijklmnopqrstuvwxyz" t)
  f_is_alphabet : Addr
  d_is_alphabet : FuncData
  F_is_alphabet : FnP K "is_alphabet" (topS 7) f_is_alphabet d_is_alphabet
  g_is_alphabet : mg "is_alphabet" = some (.ref f_is_alphabet)
  f_is_group : Addr
  d_is_group : FuncData
  F_is_group : FnP K "is_group" (topS 8) f_is_group d_is_group
  g_is_group : mg "is_group" = some (.ref f_is_group)
  f_check_signs : Addr
  d_check_signs : FuncData
  F_check_signs : FnP K "check_signs" (topS 9) f_check_signs d_check_signs
  g_check_signs : mg "check_signs" = some (.ref f_check_signs)
  f_check_group : Addr
  d_check_group : FuncData
  F_check_group : FnP K "check_group" (topS 10) f_check_group d_check_group
  g_check_group : mg "check_group" = some (.ref f_check_group)
  f_check_row : Addr
  d_check_row : FuncData
  F_check_row : FnP K "check_row" (topS 11) f_check_row d_check_row
  g_check_row : mg "check_row" = some (.ref f_check_row)
  f_turned : Addr
  d_turned : FuncData
  F_turned : FnP K "turned" (topS 12) f_turned d_turned
  g_turned : mg "turned" = some (.ref f_turned)
  f_renamed : Addr
  d_renamed : FuncData
  F_renamed : FnP K "renamed" (topS 13) f_renamed d_renamed
  g_renamed : mg "renamed" = some (.ref f_renamed)
  f_law_draw : Addr
  d_law_draw : FuncData
  F_law_draw : FnP K "_law_draw" (topS 17) f_law_draw d_law_draw
  g_law_draw : mg "_law_draw" = some (.ref f_law_draw)
  f_law_same : Addr
  d_law_same : FuncData
  F_law_same : FnP K "_law_same" (topS 18) f_law_same d_law_same
  g_law_same : mg "_law_same" = some (.ref f_law_same)
  f_law_signs : Addr
  d_law_signs : FuncData
  F_law_signs : FnP K "_law_signs" (topS 19) f_law_signs d_law_signs
  g_law_signs : mg "_law_signs" = some (.ref f_law_signs)
  f_law_word : Addr
  d_law_word : FuncData
  F_law_word : FnP K "_law_word" (topS 20) f_law_word d_law_word
  g_law_word : mg "_law_word" = some (.ref f_law_word)
  f_law_rows : Addr
  d_law_rows : FuncData
  F_law_rows : FnP K "_law_rows" (topS 21) f_law_rows d_law_rows
  g_law_rows : mg "_law_rows" = some (.ref f_law_rows)
  f_law_renamed : Addr
  d_law_renamed : FuncData
  F_law_renamed : FnP K "_law_renamed" (topS 22) f_law_renamed d_law_renamed
  g_law_renamed : mg "_law_renamed" = some (.ref f_law_renamed)
  f_law_char : Addr
  d_law_char : FuncData
  F_law_char : FnP K "_law_char" (topS 23) f_law_char d_law_char
  g_law_char : mg "_law_char" = some (.ref f_law_char)
  f_law_bent : Addr
  d_law_bent : FuncData
  F_law_bent : FnP K "_law_bent" (topS 24) f_law_bent d_law_bent
  g_law_bent : mg "_law_bent" = some (.ref f_law_bent)
  f_law_unlike : Addr
  d_law_unlike : FuncData
  F_law_unlike : FnP K "_law_unlike" (topS 25) f_law_unlike d_law_unlike
  g_law_unlike : mg "_law_unlike" = some (.ref f_law_unlike)
  f_law_is_group : Addr
  d_law_is_group : FuncData
  F_law_is_group : FnP K "_law_is_group" (topS 26) f_law_is_group d_law_is_group
  g_law_is_group : mg "_law_is_group" = some (.ref f_law_is_group)
  f_law_is_alphabet : Addr
  d_law_is_alphabet : FuncData
  F_law_is_alphabet : FnP K "_law_is_alphabet" (topS 27) f_law_is_alphabet d_law_is_alphabet
  g_law_is_alphabet : mg "_law_is_alphabet" = some (.ref f_law_is_alphabet)
  f_law_strange : Addr
  d_law_strange : FuncData
  F_law_strange : FnP K "_law_strange" (topS 28) f_law_strange d_law_strange
  g_law_strange : mg "_law_strange" = some (.ref f_law_strange)
  f_law_signs_told : Addr
  d_law_signs_told : FuncData
  F_law_signs_told : FnP K "_law_signs_told" (topS 29) f_law_signs_told d_law_signs_told
  g_law_signs_told : mg "_law_signs_told" = some (.ref f_law_signs_told)
  f_law_group_told : Addr
  d_law_group_told : FuncData
  F_law_group_told : FnP K "_law_group_told" (topS 30) f_law_group_told d_law_group_told
  g_law_group_told : mg "_law_group_told" = some (.ref f_law_group_told)
  f_law_row_told : Addr
  d_law_row_told : FuncData
  F_law_row_told : FnP K "_law_row_told" (topS 31) f_law_row_told d_law_row_told
  g_law_row_told : mg "_law_row_told" = some (.ref f_law_row_told)
  f_law_raised : Addr
  d_law_raised : FuncData
  F_law_raised : FnP K "_law_raised" (topS 32) f_law_raised d_law_raised
  g_law_raised : mg "_law_raised" = some (.ref f_law_raised)
  f_law_texts_kept : Addr
  d_law_texts_kept : FuncData
  F_law_texts_kept : FnP K "_law_texts_kept" (topS 33) f_law_texts_kept d_law_texts_kept
  g_law_texts_kept : mg "_law_texts_kept" = some (.ref f_law_texts_kept)
  f_law_rows_kept : Addr
  d_law_rows_kept : FuncData
  F_law_rows_kept : FnP K "_law_rows_kept" (topS 34) f_law_rows_kept d_law_rows_kept
  g_law_rows_kept : mg "_law_rows_kept" = some (.ref f_law_rows_kept)
  f_law_row_changed : Addr
  d_law_row_changed : FuncData
  F_law_row_changed : FnP K "_law_row_changed" (topS 35) f_law_row_changed d_law_row_changed
  g_law_row_changed : mg "_law_row_changed" = some (.ref f_law_row_changed)
  f_law_new : Addr
  d_law_new : FuncData
  F_law_new : FnP K "_law_new" (topS 16) f_law_new d_law_new
  g_law_new : mg "_law_new" = some (.ref f_law_new)
  f_rows_up_to : Addr
  d_rows_up_to : FuncData
  F_rows_up_to : FnP K "rows_up_to" (topS 14) f_rows_up_to d_rows_up_to
  g_rows_up_to : mg "rows_up_to" = some (.ref f_rows_up_to)
  f_law : Addr
  d_law : FuncData
  F_law : FnP K "law" (topS 36) f_law d_law
  g_law : mg "law" = some (.ref f_law)
end Sg
namespace Sg
open Enc (enc)
open ToD (toD)
open PySem PySem.Spec PyProof.Rows L2
noncomputable section
variable {P : Program} {w : World} {K : KF} {mg : Str → Option Value} {base : Heap}
theorem sc_rows_up_to : GScope ["signs", "longest", "level", "length", "row", "sign"] ["signs", "longest"] (defScope (topS 14)) := ⟨rfl, rfl, rfl, by decide +kernel, rfl, by decide +kernel, by decide +kernel⟩
theorem b_rows_up_to (G : Gd P K mg) : Binds K G.d_rows_up_to ["signs", "longest"] [] := G.F_rows_up_to.bindsN fun _ _ _ _ _ _ us hl => match us, hl with | [_, _], _ => rfl
theorem gok_rows_up_to (G : Gd P K mg) : GFn P w K mg base 1 G.f_rows_up_to G.d_rows_up_to ["signs", "longest"] (sp_rows_up_to K) := by
  obtain ⟨oc, od, dV, kV, doc, pm, an, cdv, ct, osl, ed, lk, hcd, _, _⟩ := G.F_rows_up_to.ex
  rw [ed] at lk ⊢
  refine gfn_of lk hcd sc_rows_up_to (fun vs H Q E h => ?_) (fun A outer s H0 vs Q E pn hr h => ?_)
  · obtain ⟨_, _, _, _, rfl, _⟩ := h
    rfl
  · obtain ⟨signs, longest, B0, r, rfl, sB, hm, k⟩ := h
    refine ⟨_, gss_cons (gs_ps (ps_set (i := 2) sc_rows_up_to.nd rfl (by first | exact .inl rfl | exact .inr rfl) (pe_lst (pa_cons pe_str pa_nil))))
      (gss_cons (sg_gs_for owns_gcx rfl (pi_range1 rfl G.z_range (pa_cons (pe_op op_add (pv 1) pe_int) pa_nil)) (pg_name (i := 3) sc_rows_up_to.nd rfl (by first | exact .inl rfl | exact .inr rfl))
        (gss_cons (gs_ps (ps_if (pt_cmpR op_gt (pv 3) pe_int (nomark _)) (pss_one (ps_setLc2 (i := 2) rfl sc_rows_up_to.nd rfl rfl rfl (pi_list (pv 2)) (own := [("row", 4), ("sign", 5)]) (vs1 := [5]) (blkOk_by (by kernel_rfl)) (by decide)
              (fun _ _ _ _ _ => pg_name (i := 4) sc_rows_up_to.nd rfl (by first | exact .inl rfl | exact .inr rfl)) (fun _ _ _ _ _ => pts_nil) (fun _ _ _ _ _ => pi_str (pv 0))
              (fun _ _ _ _ _ => pg_name (i := 5) sc_rows_up_to.nd rfl (by first | exact .inl rfl | exact .inr rfl)) (fun _ _ _ _ _ => pts_nil) (fun _ _ _ _ _ => pe_op op_catS (pv 4) (pv 5)))) pss_nil))
          (gss_cons (sg_gs_for owns_gcx rfl (pi_list (pv 2)) (pg_name (i := 4) sc_rows_up_to.nd rfl (by first | exact .inl rfl | exact .inr rfl)) (gss_cons (gs_yield (pv 4)) gss_nil)) gss_nil)))
        gss_nil), ?_⟩
    have W := Wd.start0 sB
    unfold m_rows_up_to at hm
    obtain ⟨u1, h_u1, hm⟩ := ob hm
    refine gthen (gplain (gasg (glst (gcons (gs ?_)))))
    refine gnil (r_lst (K := K) (α := Tx) W (by show 1 ≤ sizeLine; decide) (EncL.cons (α := Tx) (rfl : enc K B0 (.str (mkS (tx ""))) (tx "")) EncL.nil) (fun v1 B1 H1 W1 s1 e1 => ?_))
    refine gthen (ggforR (gcons (go (gv rfl ?_))))
    refine gc (r_i0 (gnil ⟨_, rfl, rngI_lo h_u1, rngI_hi h_u1, ?_⟩))
    refine gloopR (fun rem ys σ H => ∃ (level out : List Tx) (v : V) (o1 o2 o3 : Option V) (B : Hp), σ = [some (.str (mkS signs)), some (.int longest), some v, o1, o2, o3] ∧ Wd H0 [] B0 B H [] ∧ enc K B v level ∧ EncL K B ys out ∧ upG signs rem level out = some r) ⟨_, _, _, _, _, _, _, rfl, W1, e1, EncL.nil, hm⟩ ?_ ?_
    · rintro n rem ys σ H2 ⟨level, out, v, o1, o2, o3, B2, rfl, W2, e2, eo, hm⟩
      unfold upG at hm
      obtain ⟨l2, h_l2, hm⟩ := ob hm
      obtain ⟨out2, h_o2, hm⟩ := ob hm
      refine gnm (gthen (gplain ?_))
      have rest : ∀ (v : V) (o2 o3 : Option V) (B : Hp) (H : Hp), Wd H0 [] B0 B H [] → enc K B v l2 → EncL K B ys out → tGThen (tGFor (iList K (tVar 2)) (gName 4) (tGThen (tGYield (tVar 4)) tG0)) tG0
          { nx := fun ys σ H => ∃ (level out : List Tx) (v : V) (o1 o2 o3 : Option V) (B : Hp), σ = [some (.str (mkS signs)), some (.int longest), some v, o1, o2, o3] ∧ Wd H0 [] B0 B H [] ∧ enc K B v level ∧ EncL K B ys out ∧ upG signs rem level out = some r, rt := fun ys v H' => v = .non ∧ Q ys H',
            ct := fun ys σ H => ∃ (level out : List Tx) (v : V) (o1 o2 o3 : Option V) (B : Hp), σ = [some (.str (mkS signs)), some (.int longest), some v, o1, o2, o3] ∧ Wd H0 [] B0 B H [] ∧ enc K B v level ∧ EncL K B ys out ∧ upG signs rem level out = some r,
            bk := fun ys σ H => tG0 { nx := fun ys _ H' => Q ys H', rt := fun ys v H' => v = .non ∧ Q ys H' } ys σ H } ys [some (.str (mkS signs)), some (.int longest), some v, some (.int n), o2, o3] H := by
        intro v o2 o3 B3 H3 W3 e3 eo3
        refine gthen (ggforL (gv rfl ?_))
        obtain ⟨a, ws, ea, hb, he⟩ := id e3
        refine ⟨_, ea, ⟨_, SqL.of (W3.sub _ _ hb)⟩, gloopL he (fun rem2 ys σ H => ∃ (out : List Tx) (o2 : Option V), σ = [some (.str (mkS signs)), some (.int longest), some v, some (.int n), o2, o3] ∧ H = H3 ∧ EncL K B3 ys out ∧ upY rem2 out = some out2) ⟨_, _, rfl, rfl, eo3, h_o2⟩ ?_ ?_ ?_⟩
        · rintro rem2 ys2 σ H ⟨out, o2, rfl, rfl, _⟩
          exact W3.sub _ _ hb
        · rintro x rem2 vx ys2 σ H ⟨out, o2, rfl, rfl, eo4, hy⟩ ex
          unfold upY at hy
          obtain ⟨l3, h_l3, hy⟩ := ob hy
          refine gnm (gthen (gyield ?_ (gv rfl ?_)))
          · unfold appL at h_l3
            split at h_l3
            · rename_i hl
              rw [eo4.len]
              exact hl
            · cases h_l3
          · exact ⟨_, _, rfl, rfl, appL_enc h_l3 eo4 ex, hy⟩
        · rintro ys2 σ H ⟨out, o2, rfl, rfl, eo4, hy⟩
          cases Option.some.inj hy
          exact ⟨_, _, _, _, _, _, _, rfl, W3, e3, eo4, hm⟩
      refine gif (gt (go (gv rfl ?_)))
      refine gc (r_i0 ⟨_, rfl, iteB (fun hb => ?_) (fun hb => ?_)⟩)
      · have h_l2 := bt hb h_l2
        refine gasg (glc2L (gv rfl ?_))
        obtain ⟨a, ws, ea, hb2, he⟩ := id e2
        refine ⟨_, ea, ⟨_, SqL.of (W2.sub _ _ hb2)⟩, fun D nD => ?_⟩
        have W3 := W2.newO (o := .lst []) nD
        refine lc2L he (fun rem1 H => ∃ (acc : List Tx) (accV : List V), Wd H0 [] B0 B2 H [(D, .lst accV)] ∧ EncL (α := Tx) K B2 accV acc ∧ upL signs rem1 acc = some l2) ⟨[], [], W3, EncL.nil, h_l2⟩ ?_ ?_ ?_
        · rintro rem1 H ⟨acc, accV, W, _⟩
          exact W.sub _ _ hb2
        · rintro x rem1 vx H3 ⟨acc, accV, W4, el, hu⟩ ex
          obtain rfl : vx = .str (mkS x) := ex
          unfold upL at hu
          obtain ⟨l4, h_l4, hu⟩ := ob hu
          refine gnm ⟨rfl, gyes (iteT (gstr1 (gv rfl ⟨_, rfl, ?_⟩)))⟩
          refine ib_S (fun rem3 H => ∃ (acc : List Tx) (accV : List V), Wd H0 [] B0 B2 H [(D, .lst accV)] ∧ EncL (α := Tx) K B2 accV acc ∧ upC x rem3 acc = some l4) ⟨_, _, W4, el, h_l4⟩ ?_ ?_
          · rintro c rem3 H ⟨acc, accV, W5, el5, hc⟩
            unfold upC at hc
            obtain ⟨t5, h_t5, hc⟩ := ob hc
            obtain ⟨l5, h_l5, hc⟩ := ob hc
            refine gnm ⟨rfl, gyes (iteT (go (gv rfl ?_)))⟩
            refine gv rfl (r_catS h_t5 ?_)
            refine r_nA (W5.got 0 rfl) el5 h_l5 ?_
            exact ⟨_, _, W5.put (o' := .lst (accV ++ [.str (mkS t5)])) 0 rfl, appL_enc h_l5 el5 (rfl : enc K B2 (.str (mkS t5)) t5), hc⟩
          · rintro H ⟨acc, accV, W5, el5, hc⟩
            cases Option.some.inj hc
            exact ⟨_, _, W5, el5, hu⟩
        · rintro H ⟨acc, accV, W5, el5, hu⟩
          cases Option.some.inj hu
          obtain ⟨B6, W6, s6, f6⟩ := W5.freeze (W5.mine0 0 rfl (by simp))
          exact rest _ _ _ _ _ W6 ⟨_, _, rfl, f6, EncL.mono s6 el5⟩ (EncL.mono s6 eo)
      · have h_l2 := bf hb h_l2
        cases Option.some.inj h_l2
        exact gnext (rest _ _ _ _ _ W2 e2 eo)
    · rintro ys σ H2 ⟨level, out, v, o1, o2, o3, B2, rfl, W2, e2, eo, hm⟩
      cases Option.some.inj hm
      exact k _ _ _ W2.aft eo
theorem sc_law_new : FnScope ["_law_script"] ["_law_script"] (defScope (topS 16)) := ⟨rfl, rfl, rfl, by decide +kernel, rfl, by decide +kernel, by decide +kernel⟩
theorem b_law_new (G : Gd P K mg) : Binds K G.d_law_new ["_law_script"] [] := G.F_law_new.bindsN fun _ _ _ _ _ _ us hl => match us, hl with | [_], _ => rfl
theorem ok_law_new (G : Gd P K mg) : FnOk P w K mg base CX0 1 G.f_law_new G.d_law_new ["_law_script"] (sp_law_new K) := by
  refine G.F_law_new.ok sc_law_new (fun vs H Q E h => ?_) (fun cdv A outer s H0 vs Q E hr h => ?_)
  · obtain ⟨_, _, _, rfl, _⟩ := h
    rfl
  · obtain ⟨a, cs, B0, rfl, sB, hS, k⟩ := h
    refine ⟨_, PSs.nox (pss_one (ps_ret (pe_lst (pa_cons (pe_callTy call_listL rfl G.z_list (by decide +kernel) (pa_cons (pv 0) pa_nil)) (pa_cons pe_int (pa_cons pe_int (pa_cons pe_int (pa_cons pe_int pa_nil)))))))), ?_⟩
    have W := Wd.start0 sB
    refine gret (glst (gcons (gcb (gcons (gv rfl ?_)))))
    refine gnil ?_
    obtain ⟨p, ys, e, h1, h2⟩ := r_new (Q := Q) W hS k
    refine ⟨p, ys, e, h1, fun l hl => ?_⟩
    exact gcons (gc (gcons (gc (gcons (gc (gcons (gc (gnil (h2 l hl)))))))))
theorem sc_law_same : FnScope ["_law_actual", "_law_due", "_law_k"] ["_law_actual", "_law_due"] (defScope (topS 18)) := ⟨rfl, rfl, rfl, by decide +kernel, rfl, by decide +kernel, by decide +kernel⟩
theorem b_law_same (G : Gd P K mg) : Binds K G.d_law_same ["_law_actual", "_law_due"] [] := G.F_law_same.bindsN fun _ _ _ _ _ _ us hl => match us, hl with | [_, _], _ => rfl
theorem okS_zero (G : Gd P K mg) : FnOk P w K mg base CX0 1 G.f_law_same G.d_law_same ["_law_actual", "_law_due"] (spS K 0) := by
  refine G.F_law_same.ok sc_law_same (fun vs H Q E h => ?_) (fun cdv A outer s H0 vs Q E hr h => ?_)
  · obtain ⟨_, _, _, _, rfl, _⟩ := h
    rfl
  · obtain ⟨_, _, _, _, _, _, _, _, ok, _⟩ := h
    exact False.elim ok
theorem okS_step (G : Gd P K mg) {n : Nat} (ih : FnOk P w K mg base CX0 (n + 1) G.f_law_same G.d_law_same ["_law_actual", "_law_due"] (spS K n)) : FnOk P w K mg base CX0 (n + 1 + 1) G.f_law_same G.d_law_same ["_law_actual", "_law_due"] (spS K (n + 1)) := by
  refine G.F_law_same.ok sc_law_same (fun vs H Q E h => ?_) (fun cdv A outer s H0 vs Q E hr h => ?_)
  · obtain ⟨_, _, _, _, rfl, _⟩ := h
    rfl
  · obtain ⟨x, v, u, B0, rfl, sB, d1, d2, ok, k⟩ := h
    refine ⟨_, PSs.nox (pss_cons (ps_if (pt_cmpR op_isN' (pv 1) pe_non (nomark _)) (pss_one (ps_ret (pe_cmpR op_isN' (pv 0) pe_non (nomark _)))) pss_nil)
      (pss_cons (ps_if (pt_val (pe_callB call_isi rfl G.z_isinstance (by decide +kernel) (pa_cons (pv 1) (pa_cons (pe_bltn (v := .ty "bool") rfl G.z_bool (by decide +kernel) rfl) pa_nil)))) (pss_one (ps_ret (pe_and (pe_callB call_isi rfl G.z_isinstance (by decide +kernel) (pa_cons (pv 0) (pa_cons (pe_bltn (v := .ty "bool") rfl G.z_bool (by decide +kernel) rfl) pa_nil))) (pe_one (pe_cmpR op_eq (pv 0) (pv 1) (nomark _)))))) pss_nil)
      (pss_cons (ps_if (pt_val (pe_callB call_isi rfl G.z_isinstance (by decide +kernel) (pa_cons (pv 1) (pa_cons (pe_bltn (v := .ty "int") rfl G.z_int (by decide +kernel) rfl) pa_nil)))) (pss_one (ps_ret (pe_and (pe_callB call_isi rfl G.z_isinstance (by decide +kernel) (pa_cons (pv 0) (pa_cons (pe_bltn (v := .ty "int") rfl G.z_int (by decide +kernel) rfl) pa_nil))) (pe_and (pe_not (pe_callB call_isi rfl G.z_isinstance (by decide +kernel) (pa_cons (pv 0) (pa_cons (pe_bltn (v := .ty "bool") rfl G.z_bool (by decide +kernel) rfl) pa_nil)))) (pe_one (pe_cmpR op_eq (pv 0) (pv 1) (nomark _))))))) pss_nil)
      (pss_cons (ps_if (pt_val (pe_callB call_isi rfl G.z_isinstance (by decide +kernel) (pa_cons (pv 1) (pa_cons (pe_bltn (v := .ty "str") rfl G.z_str (by decide +kernel) rfl) pa_nil)))) (pss_one (ps_ret (pe_and (pe_callB call_isi rfl G.z_isinstance (by decide +kernel) (pa_cons (pv 0) (pa_cons (pe_bltn (v := .ty "str") rfl G.z_str (by decide +kernel) rfl) pa_nil))) (pe_one (pe_cmpR op_eq (pv 0) (pv 1) (nomark _)))))) pss_nil)
      (pss_cons (ps_if (PW.pt (pw_and (pt_val (pe_callB call_isi rfl G.z_isinstance (by decide +kernel) (pa_cons (pv 1) (pa_cons (pe_bltn (v := .ty "tuple") rfl G.z_tuple (by decide +kernel) rfl) pa_nil)))) (pw_and1 (pt_not (pt_val (pe_callB call_isi rfl G.z_isinstance (by decide +kernel) (pa_cons (pv 0) (pa_cons (pe_bltn (v := .ty "tuple") rfl G.z_tuple (by decide +kernel) rfl) pa_nil)))))))) (pss_one (ps_ret pe_bl)) pss_nil)
      (pss_cons (ps_if (PW.pt (pw_and (pt_val (pe_callB call_isi rfl G.z_isinstance (by decide +kernel) (pa_cons (pv 1) (pa_cons (pe_bltn (v := .ty "list") rfl G.z_list (by decide +kernel) rfl) pa_nil)))) (pw_and1 (pt_not (pt_val (pe_callB call_isi rfl G.z_isinstance (by decide +kernel) (pa_cons (pv 0) (pa_cons (pe_bltn (v := .ty "list") rfl G.z_list (by decide +kernel) rfl) pa_nil)))))))) (pss_one (ps_ret pe_bl)) pss_nil)
      (pss_cons (ps_if (pt_cmpR op_ne (pe_callB call_lenL rfl G.z_len PySem.boot_len (pa_cons (pv 0) pa_nil)) (pe_callB call_lenL rfl G.z_len PySem.boot_len (pa_cons (pv 1) pa_nil)) (nomark _)) (pss_one (ps_ret pe_bl)) pss_nil)
      (pss_cons (ps_for PassesOwn.never rfl (pi_range1 rfl G.z_range (pa_cons (pe_callB call_lenL rfl G.z_len PySem.boot_len (pa_cons (pv 1) pa_nil)) pa_nil)) (pg_name (i := 2) sc_law_same.nd rfl (by first | exact .inl rfl | exact .inr rfl)) (pss_one (ps_if (pt_not (pt_val (pe_call ih hr rfl G.g_law_same G.F_law_same.kp (b_law_same G) .nil pass0 (pa_cons (pe_ix ix_seq (pv 0) (pv 2) (fun _ _ => rfl)) (pa_cons (pe_ix ix_seq (pv 1) (pv 2) (fun _ _ => rfl)) pa_nil))))) (pss_one (ps_ret pe_bl)) pss_nil)))
      (pss_one (ps_ret pe_bl)))))))))), ?_⟩
    have W := Wd.start0 sB
    have D1 := Dp.up sB d1
    have D2 := Dp.up sB d2
    cases D1 with
    | non =>
      cases D2
      try dsimp only
      refine gseq (gif (gt (go (gv rfl (gc (r_isN1 ⟨_, rfl, iteT ?_⟩))))))
      exact gret (go (gv rfl (gc (r_isN1 (k _ _ W.aft)))))
    | bl b =>
      cases D2
      try dsimp only
      refine gseq (gif (gt (go (gv rfl (gc (r_isN0 (fun z => nomatch z) ⟨_, rfl, iteF (gnext ?_)⟩))))))
      try dsimp only
      refine gseq (gif (gB (gcb (gcons (gv rfl (gcons (gc (gnil (r_isi (.base (.bl b)) kb_bool_bool ⟨_, rfl, iteT ?_⟩)))))))))
      try dsimp only
      refine gret (gAndV (gcb (gcons (gv rfl (gcons (gc (gnil (r_isi (.base (.bl b)) kb_bool_bool ⟨_, rfl, iteT ?_⟩))))))))
      refine go (gv rfl (gv rfl (r_eqB ?_)))
      rw [decide_eq_true rfl]
      exact k _ _ W.aft
    | int b =>
      cases D2
      try dsimp only
      refine gseq (gif (gt (go (gv rfl (gc (r_isN0 (fun z => nomatch z) ⟨_, rfl, iteF (gnext ?_)⟩))))))
      try dsimp only
      refine gseq (gif (gB (gcb (gcons (gv rfl (gcons (gc (gnil (r_isi (.base (.int b)) kb_int_bool ⟨_, rfl, iteF (gnext ?_)⟩)))))))))
      try dsimp only
      refine gseq (gif (gB (gcb (gcons (gv rfl (gcons (gc (gnil (r_isi (.base (.int b)) kb_int_int ⟨_, rfl, iteT ?_⟩)))))))))
      try dsimp only
      refine gret (gAndV (gcb (gcons (gv rfl (gcons (gc (gnil (r_isi (.base (.int b)) kb_int_int ⟨_, rfl, iteT ?_⟩))))))))
      try dsimp only
      refine gAndV (gNV (gcb (gcons (gv rfl (gcons (gc (gnil (r_isi (b := false) (.base (.int b)) kb_int_bool ⟨_, rfl, _, rfl, iteT ?_⟩))))))))
      refine go (gv rfl (gv rfl (r_eqI ?_)))
      rw [decide_eq_true rfl]
      exact k _ _ W.aft
    | str b =>
      cases D2
      try dsimp only
      refine gseq (gif (gt (go (gv rfl (gc (r_isN0 (fun z => nomatch z) ⟨_, rfl, iteF (gnext ?_)⟩))))))
      try dsimp only
      refine gseq (gif (gB (gcb (gcons (gv rfl (gcons (gc (gnil (r_isi (.base (.str b)) kb_str_bool ⟨_, rfl, iteF (gnext ?_)⟩)))))))))
      try dsimp only
      refine gseq (gif (gB (gcb (gcons (gv rfl (gcons (gc (gnil (r_isi (.base (.str b)) kb_str_int ⟨_, rfl, iteF (gnext ?_)⟩)))))))))
      try dsimp only
      refine gseq (gif (gB (gcb (gcons (gv rfl (gcons (gc (gnil (r_isi (.base (.str b)) kb_str_str ⟨_, rfl, iteT ?_⟩)))))))))
      try dsimp only
      refine gret (gAndV (gcb (gcons (gv rfl (gcons (gc (gnil (r_isi (.base (.str b)) kb_str_str ⟨_, rfl, iteT ?_⟩))))))))
      refine go (gv rfl (gv rfl (r_eqStr ?_)))
      exact k _ _ W.aft
    | @lst a xs ds q1 t1 =>
      cases D2 with
      | @lst b ys _ q2 t2 =>
      obtain ⟨hl, ok⟩ := ok
      try dsimp only
      refine gseq (gif (gt (go (gv rfl (gc (r_isN0 (fun z => nomatch z) ⟨_, rfl, iteF (gnext ?_)⟩))))))
      try dsimp only
      refine gseq (gif (gB (gcb (gcons (gv rfl (gcons (gc (gnil (r_isi (tyL q2) kb_list_bool ⟨_, rfl, iteF (gnext ?_)⟩)))))))))
      try dsimp only
      refine gseq (gif (gB (gcb (gcons (gv rfl (gcons (gc (gnil (r_isi (tyL q2) kb_list_int ⟨_, rfl, iteF (gnext ?_)⟩)))))))))
      try dsimp only
      refine gseq (gif (gB (gcb (gcons (gv rfl (gcons (gc (gnil (r_isi (tyL q2) kb_list_str ⟨_, rfl, iteF (gnext ?_)⟩)))))))))
      try dsimp only
      refine gseq (gif (gAnd (gB (gcb (gcons (gv rfl (gcons (gc (gnil (r_isi (tyL q2) kb_list_tuple ⟨_, rfl, iteF (iteF (gnext ?_))⟩))))))))))
      try dsimp only
      refine gseq (gif (gAnd (gB (gcb (gcons (gv rfl (gcons (gc (gnil (r_isi (tyL q2) kb_list_list ⟨_, rfl, iteT ?_⟩)))))))))) 
      try dsimp only
      refine gN (gB (gcb (gcons (gv rfl (gcons (gc (gnil (r_isi (b := true) (tyL q1) kb_list_list ⟨_, rfl, iteF (gnext ?_)⟩))))))))
      cases d1 with
      | @lst _ xs' _ p1 c1 =>
      cases d2 with
      | @lst _ ys' _ p2 c2 =>
      have P1 : SqL K H0 a xs' := sB.seq p1
      have P2 : SqL K H0 b ys' := sB.seq p2
      try dsimp only
      refine gseq (gif (gt (go (gcb (gcons (gv rfl (gnil ⟨_, _, rfl, .inl P1, gcb (gcons (gv rfl (gnil ⟨_, _, rfl, .inl P2, r_neI ⟨_, rfl, ?_⟩⟩)))⟩)))))))
      rw [DpAll.len c1, DpAll.len c2, decide_eq_true rfl]
      refine iteF (gnext ?_)
      try dsimp only
      refine gseq (gforR (gcons (gcb (gcons (gv rfl (gnil ⟨_, _, rfl, .inl P2, gnil ⟨_, rfl, ?_, ?_, ?_⟩⟩))))))
      · rw [DpAll.len c2]; omega
      · rw [DpAll.len c2]; omega
      · rw [DpAll.len c2]
        refine same_loop (K := K) hl W ok c1 c2 ?_ ?_
        · intro i d x y N B' H' o W1 s1 a1 a2 x1 x2 okd nx
          refine gif (gN (gB (gcall (gcons (go (gv rfl (gv rfl (rIx_lst ⟨_, _, _, _, rfl, rfl, W1.sub.seq (s1.seq p1), a1, gcons (go (gv rfl (gv rfl (rIx_lst ⟨_, _, _, _, rfl, rfl, W1.sub.seq (s1.seq p2), a2, gnil ⟨d, _, _, B', rfl, W1.sub, x1, x2, okd, fun H2 B2 A2 => ⟨_, rfl, iteF (gnext ?_)⟩⟩⟩))))⟩))))))))
          exact nx B2 H2 (W1.call0 A2) (s1.trans A2.bb)
        · intro o B' H' W1 s1
          try dsimp only
          refine gret (gc ?_)
          exact k _ _ W1.aft
    | @tup a xs ds q1 t1 =>
      cases D2 with
      | @tup b ys _ q2 t2 =>
      obtain ⟨hl, ok⟩ := ok
      try dsimp only
      refine gseq (gif (gt (go (gv rfl (gc (r_isN0 (fun z => nomatch z) ⟨_, rfl, iteF (gnext ?_)⟩))))))
      try dsimp only
      refine gseq (gif (gB (gcb (gcons (gv rfl (gcons (gc (gnil (r_isi (tyT q2) kb_tuple_bool ⟨_, rfl, iteF (gnext ?_)⟩)))))))))
      try dsimp only
      refine gseq (gif (gB (gcb (gcons (gv rfl (gcons (gc (gnil (r_isi (tyT q2) kb_tuple_int ⟨_, rfl, iteF (gnext ?_)⟩)))))))))
      try dsimp only
      refine gseq (gif (gB (gcb (gcons (gv rfl (gcons (gc (gnil (r_isi (tyT q2) kb_tuple_str ⟨_, rfl, iteF (gnext ?_)⟩)))))))))
      try dsimp only
      refine gseq (gif (gAnd (gB (gcb (gcons (gv rfl (gcons (gc (gnil (r_isi (tyT q2) kb_tuple_tuple ⟨_, rfl, iteT ?_⟩)))))))))) 
      try dsimp only
      refine gN (gB (gcb (gcons (gv rfl (gcons (gc (gnil (r_isi (b := true) (tyT q1) kb_tuple_tuple ⟨_, rfl, iteF (gnext ?_)⟩))))))))
      try dsimp only
      refine gseq (gif (gAnd (gB (gcb (gcons (gv rfl (gcons (gc (gnil (r_isi (tyT q2) kb_tuple_list ⟨_, rfl, iteF (iteF (gnext ?_))⟩))))))))))
      cases d1 with
      | @tup _ xs' _ p1 c1 =>
      cases d2 with
      | @tup _ ys' _ p2 c2 =>
      have P1 : SqT K H0 a xs' := Same.tup sB p1
      have P2 : SqT K H0 b ys' := Same.tup sB p2
      try dsimp only
      refine gseq (gif (gt (go (gcb (gcons (gv rfl (gnil ⟨_, _, rfl, .inr P1, gcb (gcons (gv rfl (gnil ⟨_, _, rfl, .inr P2, r_neI ⟨_, rfl, ?_⟩⟩)))⟩)))))))
      rw [DpAll.len c1, DpAll.len c2, decide_eq_true rfl]
      refine iteF (gnext ?_)
      try dsimp only
      refine gseq (gforR (gcons (gcb (gcons (gv rfl (gnil ⟨_, _, rfl, .inr P2, gnil ⟨_, rfl, ?_, ?_, ?_⟩⟩))))))
      · rw [DpAll.len c2]; omega
      · rw [DpAll.len c2]; omega
      · rw [DpAll.len c2]
        refine same_loop (K := K) hl W ok c1 c2 ?_ ?_
        · intro i d x y N B' H' o W1 s1 a1 a2 x1 x2 okd nx
          refine gif (gN (gB (gcall (gcons (go (gv rfl (gv rfl (rIx_tup ⟨_, _, _, _, rfl, rfl, Same.tup W1.sub (Same.tup s1 p1), a1, gcons (go (gv rfl (gv rfl (rIx_tup ⟨_, _, _, _, rfl, rfl, Same.tup W1.sub (Same.tup s1 p2), a2, gnil ⟨d, _, _, B', rfl, W1.sub, x1, x2, okd, fun H2 B2 A2 => ⟨_, rfl, iteF (gnext ?_)⟩⟩⟩))))⟩))))))))
          exact nx B2 H2 (W1.call0 A2) (s1.trans A2.bb)
        · intro o B' H' W1 s1
          try dsimp only
          refine gret (gc ?_)
          exact k _ _ W1.aft
theorem okS (G : Gd P K mg) (n : Nat) : FnOk P w K mg base CX0 (n + 1) G.f_law_same G.d_law_same ["_law_actual", "_law_due"] (spS K n) := by
  induction n with
  | zero => exact okS_zero G
  | succ n ih => exact okS_step G ih
theorem ok_law_same (G : Gd P K mg) : FnOk P w K mg base CX0 8 G.f_law_same G.d_law_same ["_law_actual", "_law_due"] (sp_law_same K) := (okS G 7).imp fun _ _ _ _ h => spS_of h
def m_is_alphabet_l1 (signs : Tx) : List (Int × Nat) → Option (Ct Unit Bool)
  | [] => some (.nx ())
  | (k11, sign1) :: rem1 =>
    (bif !decide (sign1 ∈ tx "abcdefghijklmnopqrstuvwxyz") then (some true) else (bif decide ((0 : Int) < k11) then ((ixS signs (k11 - (1 : Int))).bind fun c1 =>
    some (!decide ([c1] < [sign1]))) else (some false))).bind fun b2 =>
    bif b2 then (some (.rt false))
    else (m_is_alphabet_l1 signs rem1)
def m_is_alphabet (signs : Tx) : Option Bool :=
  ((lenS signs).bind fun t1 =>
  bif decide ((1 : Int) ≤ t1) then (some (!(decide (t1 ≤ (4 : Int))))) else (some true)).bind fun b1 =>
  bif b1 then (some false)
  else (cbind (m_is_alphabet_l1 signs (enumS 0 signs)) (fun r => some r) fun _ =>
  some true)
def sp_is_alphabet (K : KF) : Sp := fun vs H Q _ => ∃ (signs : Tx) (B : Hp) (r : Bool), vs = [.str (mkS signs)] ∧ Same B H ∧ m_is_alphabet signs = some r ∧ ∀ v H' B', Aft [] B H B' H' → enc K B' v r → Q v H'
theorem sc_is_alphabet : FnScope ["signs", "k", "sign"] ["signs"] (defScope (topS 7)) := ⟨rfl, rfl, rfl, by decide +kernel, rfl, by decide +kernel, by decide +kernel⟩
theorem b_is_alphabet (G : Gd P K mg) : Binds K G.d_is_alphabet ["signs"] [] := G.F_is_alphabet.bindsN fun _ _ _ _ _ _ us hl => match us, hl with | [_], _ => rfl
theorem ok_is_alphabet (G : Gd P K mg) : FnOk P w K mg base CX0 1 G.f_is_alphabet G.d_is_alphabet ["signs"] (sp_is_alphabet K) := by
  refine G.F_is_alphabet.ok sc_is_alphabet (fun vs H Q E h => ?_) (fun cdv A outer s H0 vs Q E hr h => ?_)
  · obtain ⟨_, _, _, rfl, _⟩ := h
    rfl
  · obtain ⟨signs, B0, r, rfl, sB, hm, k⟩ := h
    refine ⟨_, PSs.nox (pss_cons (ps_if (pt_not (pt_chain op_le op_le pe_int (pe_callB call_lenS rfl G.z_len PySem.boot_len (pa_cons (pv 0) pa_nil)) pe_int)) (pss_one (ps_ret pe_bl)) pss_nil)
    (pss_cons (ps_for PassesOwn.never rfl (pi_enumS rfl G.z_enumerate (pa_cons (pv 0) pa_nil)) (pg_tup rfl (pgs_cons (pg_name (i := 1) sc_is_alphabet.nd rfl (by first | exact .inl rfl | exact .inr rfl)) (pgs_cons (pg_name (i := 2) sc_is_alphabet.nd rfl (by first | exact .inl rfl | exact .inr rfl)) pgs_nil))) (pss_one (ps_if (PW.pt (pw_or (pt_cmpR op_notInS (pv 2) (pe_gS rfl G.c_LETTERS) rfl) (pw_or1 (PW.pt (pw_and (pt_cmpR op_gt (pv 1) pe_int (nomark _)) (pw_and1 (pt_cmpR op_geS (pe_ix ix_str (pv 0) (pe_op op_sub (pv 1) pe_int) (fun _ _ => rfl)) (pv 2) (nomark _)))))))) (pss_one (ps_ret pe_bl)) pss_nil)))
    (pss_one (ps_ret pe_bl)))), ?_⟩
    have W := Wd.start0 sB
    unfold m_is_alphabet at hm
    obtain ⟨b1, h_b1, hm⟩ := ob hm
    refine gseq (gif (tbox (fun b H => ∃ B : Hp, b = b1 ∧ Same B0 B ∧ Wd H0 [] B0 B H []) ?_ ?_))
    · intro Q hQ
      have hm := h_b1
      obtain ⟨t1, h_t1, hm⟩ := ob hm
      refine gN (gt (gch (gc ?_)))
      refine gcb (gcons (gv rfl ?_))
      refine gnil (r_lenS h_t1 (r_i0 ⟨_, rfl, iteB (fun hb => ?_) (fun hb => ?_)⟩))
      · have hm := bt hb hm
        refine gc ?_
        refine r_i0 ⟨_, rfl, ?_⟩
        cases Option.some.inj hm
        exact hQ _ _ ⟨_, rfl, Same.refl _, W⟩
      · have hm := bf hb hm
        refine ⟨_, rfl, ?_⟩
        cases Option.some.inj hm
        exact hQ _ _ ⟨_, rfl, Same.refl _, W⟩
    · rintro _ H1 ⟨B1, rfl, s1, W1⟩
      refine iteB (fun hb => ?_) (fun hb => ?_)
      · have hm := bt hb hm
        refine gret (gc ?_)
        cases Option.some.inj hm
        exact k _ _ _ W1.aft rfl
      · have hm := bf hb hm
        refine gnext ?_
        try dsimp only
        try dsimp only
        obtain ⟨s91, h_s91, hm1⟩ := ob hm
        refine gseq (gforES (gcons (gv rfl ?_)))
        refine gnil ⟨_, rfl, loopES (z := signs) (fun rem1 σ H => ∃ (o1 : Option V) (o2 : Option V) (B : Hp), σ = [some (.str (mkS signs)), o1, o2] ∧ Same B1 B ∧ Wd H0 [] B0 B H [] ∧ m_is_alphabet_l1 signs rem1 = some s91) ⟨_, _, _, rfl, Same.refl _, W1, h_s91⟩ ?_ ?_⟩
        · rintro k11 sign1 rem1 σ H2 T1 ⟨o1, o2, B2, rfl, s2, W2, hm⟩ n1
          obtain ⟨B3, W3, s3, _⟩ := W2.new (o := .tup [.int k11, .str (mkS [sign1])]) n1
          refine ⟨T1, _, rfl, SqT.of upd_same, rfl, _, _, rfl, _, _, rfl, rfl, ?_⟩
          try dsimp only
          obtain ⟨b2, h_b2, hm⟩ := ob hm
          refine gif (tbox (fun b H => ∃ B : Hp, b = b2 ∧ Same B3 B ∧ Wd H0 [] B0 B H []) ?_ ?_)
          · intro Q hQ
            have hm := h_b2
            refine gOr (gt (go (gv rfl ?_)))
            refine gs ?_
            refine r_ninC ⟨_, rfl, iteB (fun hb => ?_) (fun hb => ?_)⟩
            · have hm := bt hb hm
              cases Option.some.inj hm
              exact hQ _ _ ⟨_, rfl, Same.refl _, W3⟩
            · have hm := bf hb hm
              refine gAnd (gt (go (gv rfl ?_)))
              refine gc ?_
              refine r_i0 ⟨_, rfl, iteB (fun hb => ?_) (fun hb => ?_)⟩
              · have hm := bt hb hm
                obtain ⟨c1, h_c1, hm⟩ := ob hm
                refine gt (go (go (gv rfl ?_)))
                refine go (gv rfl ?_)
                refine gc ?_
                refine r_i0 (r_ixS h_c1 (gv rfl ?_))
                refine r_geS ⟨_, rfl, ?_⟩
                cases Option.some.inj hm
                exact hQ _ _ ⟨_, rfl, Same.refl _, W3⟩
              · have hm := bf hb hm
                cases Option.some.inj hm
                exact hQ _ _ ⟨_, rfl, Same.refl _, W3⟩
          · rintro _ H3 ⟨B4, rfl, s4, W4⟩
            refine iteB (fun hb => ?_) (fun hb => ?_)
            · have hm := bt hb hm
              refine gret (gc ?_)
              cases Option.some.inj hm
              cases Option.some.inj hm1
              exact k _ _ _ W4.aft rfl
            · have hm := bf hb hm
              refine gnext ?_
              try dsimp only
              exact ⟨_, _, _, rfl, s2.trans (((Same.refl _).trans s3).trans s4), W4, hm⟩
        · rintro σ H4 ⟨o1, o2, B5, rfl, s5, W5, hm⟩
          cases Option.some.inj hm
          have hm := hm1
          try dsimp only
          refine gret (gc ?_)
          cases Option.some.inj hm
          exact k _ _ _ W5.aft rfl

def m_is_group_l1 : List Nat → Option (Ct Unit Bool)
  | [] => some (.nx ())
  | sign1 :: rem1 =>
    bif !decide (sign1 ∈ tx "abcdefghijklmnopqrstuvwxyz") then (some (.rt false))
    else (m_is_group_l1 rem1)
def m_is_group (group : Tx) : Option Bool :=
  cbind (m_is_group_l1 group) (fun r => some r) fun _ =>
  some (!decide (group = tx ""))
def sp_is_group (K : KF) : Sp := fun vs H Q _ => ∃ (group : Tx) (B : Hp) (r : Bool), vs = [.str (mkS group)] ∧ Same B H ∧ m_is_group group = some r ∧ ∀ v H' B', Aft [] B H B' H' → enc K B' v r → Q v H'
theorem sc_is_group : FnScope ["group", "sign"] ["group"] (defScope (topS 8)) := ⟨rfl, rfl, rfl, by decide +kernel, rfl, by decide +kernel, by decide +kernel⟩
theorem b_is_group (G : Gd P K mg) : Binds K G.d_is_group ["group"] [] := G.F_is_group.bindsN fun _ _ _ _ _ _ us hl => match us, hl with | [_], _ => rfl
theorem ok_is_group (G : Gd P K mg) : FnOk P w K mg base CX0 1 G.f_is_group G.d_is_group ["group"] (sp_is_group K) := by
  refine G.F_is_group.ok sc_is_group (fun vs H Q E h => ?_) (fun cdv A outer s H0 vs Q E hr h => ?_)
  · obtain ⟨_, _, _, rfl, _⟩ := h
    rfl
  · obtain ⟨group, B0, r, rfl, sB, hm, k⟩ := h
    refine ⟨_, PSs.nox (pss_cons (ps_for PassesOwn.never rfl (pi_str (pv 0)) (pg_name (i := 1) sc_is_group.nd rfl (by first | exact .inl rfl | exact .inr rfl)) (pss_one (ps_if (pt_cmpR op_notInS (pv 1) (pe_gS rfl G.c_LETTERS) rfl) (pss_one (ps_ret pe_bl)) pss_nil)))
    (pss_one (ps_ret (pe_cmpR op_ne (pv 0) pe_str (nomark _))))), ?_⟩
    have W := Wd.start0 sB
    unfold m_is_group at hm
    obtain ⟨s91, h_s91, hm1⟩ := ob hm
    refine gseq (gforS (gv rfl ?_))
    refine ⟨_, rfl, loopS (z := group) (fun rem1 σ H => ∃ (o1 : Option V) (B : Hp), σ = [some (.str (mkS group)), o1] ∧ Same B0 B ∧ Wd H0 [] B0 B H [] ∧ m_is_group_l1 rem1 = some s91) ⟨_, _, rfl, Same.refl _, W, h_s91⟩ ?_ ?_⟩
    · rintro sign1 rem1 σ H1 ⟨o1, B1, rfl, s1, W1, hm⟩
      refine gnm ?_
      refine gif (gt (go (gv rfl ?_)))
      refine gs ?_
      refine r_ninC ⟨_, rfl, iteB (fun hb => ?_) (fun hb => ?_)⟩
      · have hm := bt hb hm
        refine gret (gc ?_)
        cases Option.some.inj hm
        cases Option.some.inj hm1
        exact k _ _ _ W1.aft rfl
      · have hm := bf hb hm
        refine gnext ?_
        try dsimp only
        exact ⟨_, _, rfl, s1.trans (Same.refl _), W1, hm⟩
    · rintro σ H2 ⟨o1, B2, rfl, s2, W2, hm⟩
      cases Option.some.inj hm
      have hm := hm1
      try dsimp only
      refine gret (go (gv rfl ?_))
      refine gs ?_
      refine r_neS ?_
      cases Option.some.inj hm
      exact k _ _ _ W2.aft rfl

def m_check_signs (signs : Tx) : Option (Rs Tx) :=
  (m_is_alphabet signs).bind fun r1 =>
  bif !r1 then ((rprS signs).bind fun u1 =>
  some (Rs.ex "InvalidSigns" (toD (α := Tx) signs)))
  else (some (Rs.ok signs))
def sp_check_signs (K : KF) (ca : String → Addr) : Sp := fun vs H Q E => ∃ (signs : Tx) (B : Hp) (r : (Rs Tx)), vs = [.str (mkS signs)] ∧ Same B H ∧ m_check_signs signs = some r ∧ (∀ x v H' B', r = .ok x → Aft [] B H B' H' → enc K B' v x → Q v H') ∧ ∀ c y d vy H' B', r = .ex c y → c ∈ errs → Aft [] B H B' H' → B' d = some (.xd [("value", vy)]) → enc K B' vy y → E (.ref (ca c)) (some d) H'
theorem sc_check_signs : FnScope ["signs"] ["signs"] (defScope (topS 9)) := ⟨rfl, rfl, rfl, by decide +kernel, rfl, by decide +kernel, by decide +kernel⟩
theorem b_check_signs (G : Gd P K mg) : Binds K G.d_check_signs ["signs"] [] := G.F_check_signs.bindsN fun _ _ _ _ _ _ us hl => match us, hl with | [_], _ => rfl
theorem ok_check_signs (G : Gd P K mg) : FnOk P w K mg base (CX P w) 2 G.f_check_signs G.d_check_signs ["signs"] (sp_check_signs K G.E.cl) := by
  refine G.F_check_signs.ok sc_check_signs (fun vs H Q E h => ?_) (fun cdv A outer s H0 vs Q E hr h => ?_)
  · obtain ⟨_, _, _, rfl, _⟩ := h
    rfl
  · obtain ⟨signs, B0, r, rfl, sB, hm, k, kx⟩ := h
    refine ⟨_, (pss_cons (ps_if (pt_not (pt_val (pe_call (ok_is_alphabet G) (hr.mono (by decide)) rfl G.g_is_alphabet G.F_is_alphabet.kp (b_is_alphabet G) .nil pass0 (pa_cons (pv 0) pa_nil)))) (pss_one (ps_raise rfl (takes_of rfl rfl rfl rfl) (pmk_grows (G.E.gi "InvalidSigns" (by decide)) hr rfl (G.E.gl "InvalidSigns" (by decide)) (pv 0)))) pss_nil)
    (pss_one (ps_ret (pv 0)))), ?_⟩
    have W := Wd.start0 sB
    unfold m_check_signs at hm
    obtain ⟨r1, h_r1, hm⟩ := ob hm
    refine gseq (gif (gN (gB (gcall (gcons (gv rfl ?_))))))
    refine gnil ⟨signs, B0, _, rfl, W.sub, h_r1, fun v1 H1 B1 A1 e1 => ?_⟩
    have W1 := W.call0 A1
    obtain rfl : v1 = .bl r1 := e1
    refine ⟨_, rfl, iteB (fun hb => ?_) (fun hb => ?_)⟩
    · have hm := bt hb hm
      obtain ⟨u1, h_u1, hm⟩ := ob hm
      refine graise (gv rfl ?_)
      refine r_raise W1 (rprS_ok h_u1) (fun d1 B2 H2 W2 s1 hd1 => ?_)
      cases Option.some.inj hm
      exact kx _ _ _ _ _ _ rfl (by decide) W2.aft hd1 (Enc.mono s1 (ToD.dp rfl))
    · have hm := bf hb hm
      refine gnext ?_
      try dsimp only
      try dsimp only
      refine gret (gv rfl ?_)
      cases Option.some.inj hm
      exact k _ _ _ _ rfl W1.aft rfl

def m_check_group (group : Tx) : Option (Rs Tx) :=
  (m_is_group group).bind fun r1 =>
  bif !r1 then ((rprS group).bind fun u1 =>
  some (Rs.ex "InvalidGroup" (toD (α := Tx) group)))
  else (some (Rs.ok group))
def sp_check_group (K : KF) (ca : String → Addr) : Sp := fun vs H Q E => ∃ (group : Tx) (B : Hp) (r : (Rs Tx)), vs = [.str (mkS group)] ∧ Same B H ∧ m_check_group group = some r ∧ (∀ x v H' B', r = .ok x → Aft [] B H B' H' → enc K B' v x → Q v H') ∧ ∀ c y d vy H' B', r = .ex c y → c ∈ errs → Aft [] B H B' H' → B' d = some (.xd [("value", vy)]) → enc K B' vy y → E (.ref (ca c)) (some d) H'
theorem sc_check_group : FnScope ["group"] ["group"] (defScope (topS 10)) := ⟨rfl, rfl, rfl, by decide +kernel, rfl, by decide +kernel, by decide +kernel⟩
theorem b_check_group (G : Gd P K mg) : Binds K G.d_check_group ["group"] [] := G.F_check_group.bindsN fun _ _ _ _ _ _ us hl => match us, hl with | [_], _ => rfl
theorem ok_check_group (G : Gd P K mg) : FnOk P w K mg base (CX P w) 2 G.f_check_group G.d_check_group ["group"] (sp_check_group K G.E.cl) := by
  refine G.F_check_group.ok sc_check_group (fun vs H Q E h => ?_) (fun cdv A outer s H0 vs Q E hr h => ?_)
  · obtain ⟨_, _, _, rfl, _⟩ := h
    rfl
  · obtain ⟨group, B0, r, rfl, sB, hm, k, kx⟩ := h
    refine ⟨_, (pss_cons (ps_if (pt_not (pt_val (pe_call (ok_is_group G) (hr.mono (by decide)) rfl G.g_is_group G.F_is_group.kp (b_is_group G) .nil pass0 (pa_cons (pv 0) pa_nil)))) (pss_one (ps_raise rfl (takes_of rfl rfl rfl rfl) (pmk_grows (G.E.gi "InvalidGroup" (by decide)) hr rfl (G.E.gl "InvalidGroup" (by decide)) (pv 0)))) pss_nil)
    (pss_one (ps_ret (pv 0)))), ?_⟩
    have W := Wd.start0 sB
    unfold m_check_group at hm
    obtain ⟨r1, h_r1, hm⟩ := ob hm
    refine gseq (gif (gN (gB (gcall (gcons (gv rfl ?_))))))
    refine gnil ⟨group, B0, _, rfl, W.sub, h_r1, fun v1 H1 B1 A1 e1 => ?_⟩
    have W1 := W.call0 A1
    obtain rfl : v1 = .bl r1 := e1
    refine ⟨_, rfl, iteB (fun hb => ?_) (fun hb => ?_)⟩
    · have hm := bt hb hm
      obtain ⟨u1, h_u1, hm⟩ := ob hm
      refine graise (gv rfl ?_)
      refine r_raise W1 (rprS_ok h_u1) (fun d1 B2 H2 W2 s1 hd1 => ?_)
      cases Option.some.inj hm
      exact kx _ _ _ _ _ _ rfl (by decide) W2.aft hd1 (Enc.mono s1 (ToD.dp rfl))
    · have hm := bf hb hm
      refine gnext ?_
      try dsimp only
      try dsimp only
      refine gret (gv rfl ?_)
      cases Option.some.inj hm
      exact k _ _ _ _ rfl W1.aft rfl

def m_check_row_l1 (signs : Tx) : List Nat → Option (Ct Unit (Rs Tx))
  | [] => some (.nx ())
  | sign1 :: rem1 =>
    bif !decide (sign1 ∈ signs) then ((rprS [sign1]).bind fun u1 =>
    some (.rt (Rs.ex "UnknownSign" (toD (α := Tx) [sign1]))))
    else (m_check_row_l1 signs rem1)
def m_check_row (row : Tx) (signs : Tx) : Option (Rs Tx) :=
  cbind (m_check_row_l1 signs row) (fun r => some r) fun _ =>
  some (Rs.ok row)
def sp_check_row (K : KF) (ca : String → Addr) : Sp := fun vs H Q E => ∃ (row : Tx) (signs : Tx) (B : Hp) (r : (Rs Tx)), vs = [.str (mkS row), .str (mkS signs)] ∧ Same B H ∧ m_check_row row signs = some r ∧ (∀ x v H' B', r = .ok x → Aft [] B H B' H' → enc K B' v x → Q v H') ∧ ∀ c y d vy H' B', r = .ex c y → c ∈ errs → Aft [] B H B' H' → B' d = some (.xd [("value", vy)]) → enc K B' vy y → E (.ref (ca c)) (some d) H'
theorem sc_check_row : FnScope ["row", "signs", "sign"] ["row", "signs"] (defScope (topS 11)) := ⟨rfl, rfl, rfl, by decide +kernel, rfl, by decide +kernel, by decide +kernel⟩
theorem b_check_row (G : Gd P K mg) : Binds K G.d_check_row ["row", "signs"] [] := G.F_check_row.bindsN fun _ _ _ _ _ _ us hl => match us, hl with | [_, _], _ => rfl
theorem ok_check_row (G : Gd P K mg) : FnOk P w K mg base (CX P w) 2 G.f_check_row G.d_check_row ["row", "signs"] (sp_check_row K G.E.cl) := by
  refine G.F_check_row.ok sc_check_row (fun vs H Q E h => ?_) (fun cdv A outer s H0 vs Q E hr h => ?_)
  · obtain ⟨_, _, _, _, rfl, _⟩ := h
    rfl
  · obtain ⟨row, signs, B0, r, rfl, sB, hm, k, kx⟩ := h
    refine ⟨_, (pss_cons (ps_for (passes_of rfl) rfl (pi_str (pv 0)) (pg_name (i := 2) sc_check_row.nd rfl (by first | exact .inl rfl | exact .inr rfl)) (pss_one (ps_if (pt_cmpR op_notInS (pv 2) (pv 1) rfl) (pss_one (ps_raise rfl (takes_of rfl rfl rfl rfl) (pmk_grows (G.E.gi "UnknownSign" (by decide)) hr rfl (G.E.gl "UnknownSign" (by decide)) (pv 2)))) pss_nil)))
    (pss_one (ps_ret (pv 0)))), ?_⟩
    have W := Wd.start0 sB
    unfold m_check_row at hm
    obtain ⟨s91, h_s91, hm1⟩ := ob hm
    refine gseq (gforS (gv rfl ?_))
    refine ⟨_, rfl, loopS (z := row) (fun rem1 σ H => ∃ (o1 : Option V) (B : Hp), σ = [some (.str (mkS row)), some (.str (mkS signs)), o1] ∧ Same B0 B ∧ Wd H0 [] B0 B H [] ∧ m_check_row_l1 signs rem1 = some s91) ⟨_, _, rfl, Same.refl _, W, h_s91⟩ ?_ ?_⟩
    · rintro sign1 rem1 σ H1 ⟨o1, B1, rfl, s1, W1, hm⟩
      refine gnm ?_
      refine gif (gt (go (gv rfl ?_)))
      refine gv rfl ?_
      refine r_ninC ⟨_, rfl, iteB (fun hb => ?_) (fun hb => ?_)⟩
      · have hm := bt hb hm
        obtain ⟨u1, h_u1, hm⟩ := ob hm
        refine graise (gv rfl ?_)
        refine r_raise W1 (rprS_ok h_u1) (fun d1 B2 H2 W2 s2 hd1 => ?_)
        cases Option.some.inj hm
        cases Option.some.inj hm1
        exact kx _ _ _ _ _ _ rfl (by decide) W2.aft hd1 (Enc.mono s2 (ToD.dp (α := Tx) rfl))
      · have hm := bf hb hm
        refine gnext ?_
        try dsimp only
        exact ⟨_, _, rfl, s1.trans (Same.refl _), W1, hm⟩
    · rintro σ H3 ⟨o1, B3, rfl, s3, W3, hm⟩
      cases Option.some.inj hm
      have hm := hm1
      try dsimp only
      refine gret (gv rfl ?_)
      cases Option.some.inj hm
      exact k _ _ _ _ rfl W3.aft rfl

def m_turned (row : Tx) : Option Tx :=
  (revS row).bind fun t1 =>
  some t1
def sp_turned (K : KF) : Sp := fun vs H Q _ => ∃ (row : Tx) (B : Hp) (r : Tx), vs = [.str (mkS row)] ∧ Same B H ∧ m_turned row = some r ∧ ∀ v H' B', Aft [] B H B' H' → enc K B' v r → Q v H'
theorem sc_turned : FnScope ["row"] ["row"] (defScope (topS 12)) := ⟨rfl, rfl, rfl, by decide +kernel, rfl, by decide +kernel, by decide +kernel⟩
theorem b_turned (G : Gd P K mg) : Binds K G.d_turned ["row"] [] := G.F_turned.bindsN fun _ _ _ _ _ _ us hl => match us, hl with | [_], _ => rfl
theorem ok_turned (G : Gd P K mg) : FnOk P w K mg base CX0 1 G.f_turned G.d_turned ["row"] (sp_turned K) := by
  refine G.F_turned.ok sc_turned (fun vs H Q E h => ?_) (fun cdv A outer s H0 vs Q E hr h => ?_)
  · obtain ⟨_, _, _, rfl, _⟩ := h
    rfl
  · obtain ⟨row, B0, r, rfl, sB, hm, k⟩ := h
    refine ⟨_, PSs.nox (pss_one (ps_ret (pe_revS (pv 0)))), ?_⟩
    have W := Wd.start0 sB
    unfold m_turned at hm
    obtain ⟨t1, h_t1, hm⟩ := ob hm
    refine gret (grvS (gv rfl ?_))
    refine r_revS h_t1 ?_
    cases Option.some.inj hm
    exact k _ _ _ W.aft rfl

def m_renamed_l1 (old : Tx) (new : Tx) : List Nat → (List Tx) → Option ((List Tx))
  | [], out1 => some out1
  | sign1 :: rem1, out1 =>
    (bif decide ((findS old [sign1]) < (0 : Int)) then (some [sign1]) else ((ixS new (findS old [sign1])).bind fun c1 =>
    some [c1])).bind fun b1 =>
    (appL out1 b1).bind fun l2 =>
    m_renamed_l1 old new rem1 l2
def m_renamed (row : Tx) (old : Tx) (new : Tx) : Option Tx :=
  (m_renamed_l1 old new row ([] : List Tx)).bind fun out1 =>
  (joinS (tx "") out1).bind fun t1 =>
  some t1
def sp_renamed (K : KF) : Sp := fun vs H Q _ => ∃ (row : Tx) (old : Tx) (new : Tx) (B : Hp) (r : Tx), vs = [.str (mkS row), .str (mkS old), .str (mkS new)] ∧ Same B H ∧ m_renamed row old new = some r ∧ ∀ v H' B', Aft [] B H B' H' → enc K B' v r → Q v H'
theorem sc_renamed : FnScope ["row", "old", "new", "out", "sign", "at"] ["row", "old", "new"] (defScope (topS 13)) := ⟨rfl, rfl, rfl, by decide +kernel, rfl, by decide +kernel, by decide +kernel⟩
theorem b_renamed (G : Gd P K mg) : Binds K G.d_renamed ["row", "old", "new"] [] := G.F_renamed.bindsN fun _ _ _ _ _ _ us hl => match us, hl with | [_, _, _], _ => rfl
theorem ok_renamed (G : Gd P K mg) : FnOk P w K mg base CX0 1 G.f_renamed G.d_renamed ["row", "old", "new"] (sp_renamed K) := by
  refine G.F_renamed.ok sc_renamed (fun vs H Q E h => ?_) (fun cdv A outer s H0 vs Q E hr h => ?_)
  · obtain ⟨_, _, _, _, _, rfl, _⟩ := h
    rfl
  · obtain ⟨row, old, new, B0, r, rfl, sB, hm, k⟩ := h
    refine ⟨_, PSs.nox (pss_cons (ps_set (i := 3) sc_renamed.nd rfl (by first | exact .inl rfl | exact .inr rfl) (pe_lst pa_nil))
    (pss_cons (ps_for PassesOwn.never rfl (pi_str (pv 0)) (pg_name (i := 4) sc_renamed.nd rfl (by first | exact .inl rfl | exact .inr rfl)) (pss_cons (ps_set (i := 5) sc_renamed.nd rfl (by first | exact .inl rfl | exact .inr rfl) (pe_m1 PySem.F.slot_str_find PySem.F.type_str_find mt_findS (pv 1) (pv 4)))
    (pss_one (ps_expr (pe_bm PySem.F.plainAttrs_list PySem.F.slot_list_append PySem.F.type_list_append mt_append (pv 3) (pa_cons (pe_ifExp (pt_cmpR op_lt (pv 5) pe_int (nomark _)) (pv 4) (pe_ix ix_str (pv 2) (pv 5) (fun _ _ => rfl))) pa_nil))))))
    (pss_one (ps_ret (pe_m1 PySem.F.slot_str_join PySem.F.type_str_join mt_joinS pe_str (pv 3)))))), ?_⟩
    have W := Wd.start0 sB
    unfold m_renamed at hm
    refine gseq (gasg (glst (gnil ⟨by show 0 ≤ sizeLine; decide, fun a1 n1 => ?_⟩)))
    have el1 : EncL (α := Tx) K B0 [] [] := EncL.nil
    have W1 := W.newO (o := .lst []) n1
    try dsimp only
    obtain ⟨s91, h_s91, hm1⟩ := ob hm
    refine gseq (gforS (gv rfl ?_))
    refine ⟨_, rfl, loopS (z := row) (fun rem1 σ H => ∃ (out1 : (List Tx)) (vs1 : List V) (o1 : Option V) (o2 : Option V) (B : Hp), σ = [some (.str (mkS row)), some (.str (mkS old)), some (.str (mkS new)), some (.ref a1), o1, o2] ∧ Same B0 B ∧ Wd H0 [] B0 B H [(a1, .lst vs1)] ∧ EncL (α := Tx) K B vs1 out1 ∧ m_renamed_l1 old new rem1 out1 = some s91) ⟨_, _, _, _, _, rfl, Same.refl _, W1, el1, h_s91⟩ ?_ ?_⟩
    · rintro sign1 rem1 σ H2 ⟨out1, vs1, o1, o2, B1, rfl, s1, W2, el2, hm⟩
      refine gnm ?_
      refine gseq (gasg (gM1 (gv rfl ?_)))
      refine ⟨⟨_, rfl⟩, gv rfl ?_⟩
      refine r_findS ?_
      try dsimp only
      obtain ⟨b1, h_b1, hm⟩ := ob hm
      refine gdrop (gBM (gv rfl ?_))
      refine ⟨.inl ⟨rfl, _, SqL.of (W2.got 0 rfl)⟩, gcons (vbox (fun v H => ∃ B : Hp, v = .str (mkS b1) ∧ Same B1 B ∧ Wd H0 [] B0 B H [(a1, .lst vs1)]) ?_ ?_)⟩
      · intro Q hQ
        have hm := h_b1
        refine gIfE (gt (go (gv rfl ?_)))
        refine gc ?_
        refine r_i0 ⟨_, rfl, iteB (fun hb => ?_) (fun hb => ?_)⟩
        · have hm := bt hb hm
          refine gv rfl ?_
          cases Option.some.inj hm
          exact hQ _ _ ⟨_, rfl, Same.refl _, W2⟩
        · have hm := bf hb hm
          obtain ⟨c1, h_c1, hm⟩ := ob hm
          refine go (gv rfl ?_)
          refine gv rfl ?_
          refine r_ixS h_c1 ?_
          cases Option.some.inj hm
          exact hQ _ _ ⟨_, rfl, Same.refl _, W2⟩
      · rintro _ H3 ⟨B2, rfl, s2, W3⟩
        replace el2 := EncL.mono s2 el2
        obtain ⟨l2, h_l2, hm⟩ := ob hm
        refine gnil (r_appL (W3.got 0 rfl) el2 h_l2 ?_)
        have el3 : EncL (α := Tx) K B2 (vs1 ++ [.str (mkS b1)]) l2 := appL_enc h_l2 el2 (show enc (α := Tx) K B2 _ b1 from rfl)
        have W4 := W3.put (o' := .lst (vs1 ++ [.str (mkS b1)])) 0 rfl
        exact ⟨_, _, _, _, _, rfl, s1.trans ((Same.refl _).trans s2), W4, el3, hm⟩
    · rintro σ H4 ⟨out1, vs1, o1, o2, B3, rfl, s3, W5, el2, hm⟩
      cases Option.some.inj hm
      have hm := hm1
      try dsimp only
      obtain ⟨t1, h_t1, hm⟩ := ob hm
      refine gret (gM1 (gs ?_))
      refine ⟨⟨_, rfl⟩, gv rfl ?_⟩
      refine r_joinS (LAt.own W5 0 rfl el2) h_t1 ?_
      cases Option.some.inj hm
      exact k _ _ _ W5.aft rfl

def m_law_draw (cs : List Int) (st0 : LS) (many : Int) : Option (Int × LS) :=
  ((bif decide (st0.c = (0 : Int)) then (some (decide (st0.a < (cs.length : Int)), st0)) else (some (false, st0))).bind fun (b1, st2) =>
  bif b1 then ((atI cs st2.a).bind fun x1 =>
  (powI (10 : Int) (18 : Int)).bind fun t1 =>
  (mulI x1 (69621 : Int)).bind fun t2 =>
  (mulI (1009 : Int) (((st2.p4 (if (decide (t1 ≤ x1)) then (1 : Int) else 0)).p3 (6 : Int)).a)).bind fun t3 =>
  (modI (t2 + t3) (2147483647 : Int)).bind fun t4 =>
  (bif decide ((((st2.p4 (if (decide (t1 ≤ x1)) then (1 : Int) else 0)).p3 (6 : Int)).p2 t4).d = (1 : Int)) then ((powI (10 : Int) (18 : Int)).bind fun t5 =>
  some (((((st2.p4 (if (decide (t1 ≤ x1)) then (1 : Int) else 0)).p3 (6 : Int)).p2 t4).p3 (60 : Int)).p2 (x1 - t5)))
  else (some (((st2.p4 (if (decide (t1 ≤ x1)) then (1 : Int) else 0)).p3 (6 : Int)).p2 t4))).bind fun st3 =>
  some (st3.p1 (st3.a + (1 : Int))))
  else (some st2)).bind fun st1 =>
  bif decide (st1.c = (0 : Int)) then (some ((0 : Int), st1))
  else (bif decide ((st1.p3 (st1.c - (1 : Int))).d = (1 : Int)) then ((modI ((st1.p3 (st1.c - (1 : Int))).b) many).bind fun t6 =>
  (fdivI ((st1.p3 (st1.c - (1 : Int))).b) many).bind fun t7 =>
  (bif decide (((st1.p3 (st1.c - (1 : Int))).p2 t7).b = (0 : Int)) then (some (((st1.p3 (st1.c - (1 : Int))).p2 t7).p3 (0 : Int)))
  else (some ((st1.p3 (st1.c - (1 : Int))).p2 t7))).bind fun st4 =>
  some (t6, st4))
  else ((mulI ((st1.p3 (st1.c - (1 : Int))).b) (48271 : Int)).bind fun t8 =>
  (modI t8 (2147483629 : Int)).bind fun t9 =>
  (fdivI (((st1.p3 (st1.c - (1 : Int))).p2 t9).b) (8 : Int)).bind fun t10 =>
  (modI t10 many).bind fun t11 =>
  some (t11, ((st1.p3 (st1.c - (1 : Int))).p2 t9))))
def sp_law_draw (K : KF) : Sp := fun vs H Q _ => ∃ (cl : Addr) (cs : List Int) (sa : Addr) (st0 : LS) (many : Int) (B : Hp) (r : Int) (st9 : LS), vs = [.ref sa, .int many] ∧ Same B H ∧ H sa = some (lsO cl st0) ∧ B sa = none ∧ B cl = some (.lst (cs.map V.int)) ∧ m_law_draw cs st0 many = some (r, st9) ∧ ∀ v H' B', Aft [sa] B H B' H' → H' sa = some (lsO cl st9) → enc K B' v r → Q v H'
theorem sc_law_draw : FnScope ["_law_state", "_law_many", "_law_cell", "_law_digit"] ["_law_state", "_law_many"] (defScope (topS 17)) := ⟨rfl, rfl, rfl, by decide +kernel, rfl, by decide +kernel, by decide +kernel⟩
theorem b_law_draw (G : Gd P K mg) : Binds K G.d_law_draw ["_law_state", "_law_many"] [] := G.F_law_draw.bindsN fun _ _ _ _ _ _ us hl => match us, hl with | [_, _], _ => rfl
theorem ok_law_draw (G : Gd P K mg) : FnOk P w K mg base CX0 1 G.f_law_draw G.d_law_draw ["_law_state", "_law_many"] (sp_law_draw K) := by
  refine G.F_law_draw.ok sc_law_draw (fun vs H Q E h => ?_) (fun cdv A outer s H0 vs Q E hr h => ?_)
  · obtain ⟨_, _, _, _, _, _, _, _, rfl, _⟩ := h
    rfl
  · obtain ⟨cl, cs, sa, st0, many, B0, r, st9, rfl, sB, hst, nst, hcl, hm, k⟩ := h
    refine ⟨_, PSs.nox (pss_cons (ps_if (PW.pt (pw_and (pt_cmpR op_eq (pe_ix ix_list (pv 0) pe_int (fun _ _ => rfl)) pe_int (nomark _)) (pw_and1 (pt_cmpR op_lt (pe_ix ix_list (pv 0) pe_int (fun _ _ => rfl)) (pe_callB call_lenL rfl G.z_len PySem.boot_len (pa_cons (pe_ix ix_list (pv 0) pe_int (fun _ _ => rfl)) pa_nil)) (nomark _))))) (pss_cons (ps_set (i := 2) sc_law_draw.nd rfl (by first | exact .inl rfl | exact .inr rfl) (pe_ix ix_list (pe_ix ix_list (pv 0) pe_int (fun _ _ => rfl)) (pe_ix ix_list (pv 0) pe_int (fun _ _ => rfl)) (fun _ _ => rfl)))
    (pss_cons (ps_asg (pe_callTy call_intV rfl G.z_int (by decide +kernel) (pa_cons (pe_cmpR op_ge (pv 2) (pe_op op_pow pe_int pe_int) (nomark _)) pa_nil)) (pg_sub (pv 0) pe_int set_list))
    (pss_cons (ps_asg pe_int (pg_sub (pv 0) pe_int set_list))
    (pss_cons (ps_asg (pe_op op_mod (pe_callTy call_intV rfl G.z_int (by decide +kernel) (pa_cons (pe_op op_add (pe_op op_mul (pv 2) pe_int) (pe_op op_mul pe_int (pe_ix ix_list (pv 0) pe_int (fun _ _ => rfl)))) pa_nil)) pe_int) (pg_sub (pv 0) pe_int set_list))
    (pss_cons (ps_if (pt_cmpR op_eq (pe_ix ix_list (pv 0) pe_int (fun _ _ => rfl)) pe_int (nomark _)) (pss_cons (ps_asg pe_int (pg_sub (pv 0) pe_int set_list))
    (pss_one (ps_asg (pe_op op_sub (pv 2) (pe_op op_pow pe_int pe_int)) (pg_sub (pv 0) pe_int set_list)))) pss_nil)
    (pss_one (ps_asg (pe_op op_add (pe_ix ix_list (pv 0) pe_int (fun _ _ => rfl)) pe_int) (pg_sub (pv 0) pe_int set_list)))))))) pss_nil)
    (pss_cons (ps_if (pt_cmpR op_eq (pe_ix ix_list (pv 0) pe_int (fun _ _ => rfl)) pe_int (nomark _)) (pss_one (ps_ret pe_int)) pss_nil)
    (pss_cons (ps_asg (pe_op op_sub (pe_ix ix_list (pv 0) pe_int (fun _ _ => rfl)) pe_int) (pg_sub (pv 0) pe_int set_list))
    (pss_cons (ps_if (pt_cmpR op_eq (pe_ix ix_list (pv 0) pe_int (fun _ _ => rfl)) pe_int (nomark _)) (pss_cons (ps_set (i := 3) sc_law_draw.nd rfl (by first | exact .inl rfl | exact .inr rfl) (pe_op op_mod (pe_callTy call_intV rfl G.z_int (by decide +kernel) (pa_cons (pe_ix ix_list (pv 0) pe_int (fun _ _ => rfl)) pa_nil)) (pv 1)))
    (pss_cons (ps_asg (pe_op op_fdivW (pe_ix ix_list (pv 0) pe_int (fun _ _ => rfl)) (pv 1)) (pg_sub (pv 0) pe_int set_list))
    (pss_cons (ps_if (pt_cmpR op_eq (pe_ix ix_list (pv 0) pe_int (fun _ _ => rfl)) pe_int (nomark _)) (pss_one (ps_asg pe_int (pg_sub (pv 0) pe_int set_list))) pss_nil)
    (pss_one (ps_ret (pv 3)))))) pss_nil)
    (pss_cons (ps_asg (pe_op op_mod (pe_callTy call_intV rfl G.z_int (by decide +kernel) (pa_cons (pe_op op_mul (pe_ix ix_list (pv 0) pe_int (fun _ _ => rfl)) pe_int) pa_nil)) pe_int) (pg_sub (pv 0) pe_int set_list))
    (pss_one (ps_ret (pe_op op_mod (pe_callTy call_intV rfl G.z_int (by decide +kernel) (pa_cons (pe_op op_fdivW (pe_ix ix_list (pv 0) pe_int (fun _ _ => rfl)) pe_int) pa_nil)) (pv 1))))))))), ?_⟩
    have W := Wd.start1 sB hst nst
    unfold m_law_draw at hm
    obtain ⟨s91, h_s91, hm1⟩ := ob hm
    refine sjoin (fun σ H => ∃ (st1 : LS) (o1 : Option V) (B : Hp), σ = [some (.ref sa), some (.int many), o1, none] ∧ Same B0 B ∧ Wd H0 [sa] B0 B H [(sa, lsO cl st1)] ∧ st1 = s91) ?_ ?_
    · rintro σ H1 ⟨st1, o1, B1, rfl, s1, W1, rfl⟩
      have hm := hm1
      replace hcl := s1 _ _ hcl
      refine gseq (gif (gt (go (go (gv rfl ?_)))))
      refine gc ?_
      refine r_ls3 (W1.got 0 rfl) (gc ?_)
      refine r_eqI ⟨_, rfl, iteB (fun hb => ?_) (fun hb => ?_)⟩
      · have hm := bt hb hm
        refine gret (gc ?_)
        cases Option.some.inj hm
        exact k _ _ _ W1.aft (W1.got 0 rfl) rfl
      · have hm := bf hb hm
        refine gnext ?_
        try dsimp only
        try dsimp only
        refine gseq (gasgG (go (go (gv rfl ?_))))
        refine gc ?_
        refine r_ls3 (W1.got 0 rfl) (gc ?_)
        refine r_i0 (gsub (gv rfl ?_))
        refine gc ?_
        refine r_put3 (W1.got 0 rfl) ?_
        have W10 := W1.put (o' := lsO cl (st1.p3 (st1.c - (1 : Int)))) 0 rfl
        try dsimp only
        refine gseq (gif (gt (go (go (gv rfl ?_)))))
        refine gc ?_
        refine r_ls4 (W10.got 0 rfl) (gc ?_)
        refine r_eqI ⟨_, rfl, iteB (fun hb => ?_) (fun hb => ?_)⟩
        · have hm := bt hb hm
          obtain ⟨t6, h_t6, hm⟩ := ob hm
          refine gseq (gasg (go (gcb (gcons (go (gv rfl ?_))))))
          refine gc ?_
          refine r_ls2 (W10.got 0 rfl) (gnil (r_intI (gv rfl ?_)))
          refine r_modI h_t6 ?_
          try dsimp only
          obtain ⟨t7, h_t7, hm⟩ := ob hm
          refine gseq (gasgG (go (go (gv rfl ?_))))
          refine gc ?_
          refine r_ls2 (W10.got 0 rfl) (gv rfl ?_)
          refine r_fdivI h_t7 (gsub (gv rfl ?_))
          refine gc ?_
          refine r_put2 (W10.got 0 rfl) ?_
          have W11 := W10.put (o' := lsO cl ((st1.p3 (st1.c - (1 : Int))).p2 t7)) 0 rfl
          try dsimp only
          obtain ⟨s93, h_s93, hm3⟩ := ob hm
          refine sjoin (fun σ H => ∃ (st4 : LS) (B : Hp), σ = [some (.ref sa), some (.int many), o1, some (.int t6)] ∧ Same B1 B ∧ Wd H0 [sa] B0 B H [(sa, lsO cl st4)] ∧ st4 = s93) ?_ ?_
          · rintro σ H4 ⟨st4, B4, rfl, s4, W12, rfl⟩
            have hm := hm3
            replace hcl := s4 _ _ hcl
            refine gret (gv rfl ?_)
            cases Option.some.inj hm
            exact k _ _ _ W12.aft (W12.got 0 rfl) rfl
          · intro hj
            have hm := h_s93
            refine gif (gt (go (go (gv rfl ?_))))
            refine gc ?_
            refine r_ls2 (W11.got 0 rfl) (gc ?_)
            refine r_eqI ⟨_, rfl, iteB (fun hb => ?_) (fun hb => ?_)⟩
            · have hm := bt hb hm
              refine gasgG (gc ?_)
              refine gsub (gv rfl ?_)
              refine gc ?_
              refine r_put3 (W11.got 0 rfl) ?_
              have W13 := W11.put (o' := lsO cl (((st1.p3 (st1.c - (1 : Int))).p2 t7).p3 (0 : Int))) 0 rfl
              exact hj _ _ ⟨_, _, rfl, Same.refl _, W13, Option.some.inj hm⟩
            · have hm := bf hb hm
              refine gnext ?_
              try dsimp only
              exact hj _ _ ⟨_, _, rfl, Same.refl _, W11, Option.some.inj hm⟩
        · have hm := bf hb hm
          refine gnext ?_
          try dsimp only
          try dsimp only
          obtain ⟨t8, h_t8, hm⟩ := ob hm
          obtain ⟨t9, h_t9, hm⟩ := ob hm
          refine gseq (gasgG (go (gcb (gcons (go (go (gv rfl ?_)))))))
          refine gc ?_
          refine r_ls2 (W10.got 0 rfl) (gc ?_)
          refine r_mulI h_t8 (gnil (r_intI (gc ?_)))
          refine r_modI h_t9 (gsub (gv rfl ?_))
          refine gc ?_
          refine r_put2 (W10.got 0 rfl) ?_
          have W14 := W10.put (o' := lsO cl ((st1.p3 (st1.c - (1 : Int))).p2 t9)) 0 rfl
          try dsimp only
          obtain ⟨t10, h_t10, hm⟩ := ob hm
          obtain ⟨t11, h_t11, hm⟩ := ob hm
          refine gret (go (gcb (gcons (go (go (gv rfl ?_))))))
          refine gc ?_
          refine r_ls2 (W14.got 0 rfl) (gc ?_)
          refine r_fdivI h_t10 (gnil (r_intI (gv rfl ?_)))
          refine r_modI h_t11 ?_
          cases Option.some.inj hm
          exact k _ _ _ W14.aft (W14.got 0 rfl) rfl
    · intro hj
      have hm := h_s91
      obtain ⟨⟨b1, st2⟩, h_b1, hm⟩ := ob hm
      refine gif (tbox (fun b H => ∃ B : Hp, b = b1 ∧ Same B0 B ∧ Wd H0 [sa] B0 B H [(sa, lsO cl st2)]) ?_ ?_)
      · intro Q hQ
        have hm := h_b1
        refine gAnd (gt (go (go (gv rfl ?_))))
        refine gc ?_
        refine r_ls3 (W.got 0 rfl) (gc ?_)
        refine r_eqI ⟨_, rfl, iteB (fun hb => ?_) (fun hb => ?_)⟩
        · have hm := bt hb hm
          refine gt (go (go (gv rfl ?_)))
          refine gc ?_
          refine r_ls1 (W.got 0 rfl) (gcb (gcons (go (gv rfl ?_))))
          refine gc ?_
          refine r_ls0 (W.got 0 rfl) (gnil (r_lenL (LAt.enc W.sub (enc_cs hcl)) (r_i0 ⟨_, rfl, ?_⟩)))
          cases Option.some.inj hm
          exact hQ _ _ ⟨_, rfl, Same.refl _, W⟩
        · have hm := bf hb hm
          cases Option.some.inj hm
          exact hQ _ _ ⟨_, rfl, Same.refl _, W⟩
      · rintro _ H2 ⟨B2, rfl, s2, W2⟩
        replace hcl := s2 _ _ hcl
        refine iteB (fun hb => ?_) (fun hb => ?_)
        · have hm := bt hb hm
          obtain ⟨x1, h_x1, hm⟩ := ob hm
          refine gseq (gasg (go (go (gv rfl ?_))))
          refine gc ?_
          refine r_ls0 (W2.got 0 rfl) (go (gv rfl ?_))
          refine gc ?_
          refine r_ls1 (W2.got 0 rfl) (r_ixL (LAt.enc W2.sub (enc_cs hcl)) h_x1 (fun v2 e2 => ?_))
          obtain rfl : v2 = .int x1 := e2
          try dsimp only
          obtain ⟨t1, h_t1, hm⟩ := ob hm
          refine gseq (gasgG (gcb (gcons (go (gv rfl ?_)))))
          refine go (gc ?_)
          refine gc ?_
          refine r_powI h_t1 (r_i0 (gnil (r_intB (gsub (gv rfl ?_)))))
          refine gc ?_
          refine r_put4 (W2.got 0 rfl) ?_
          have W3 := W2.put (o' := lsO cl (st2.p4 (if (decide (t1 ≤ x1)) then (1 : Int) else 0))) 0 rfl
          try dsimp only
          refine gseq (gasgG (gc ?_))
          refine gsub (gv rfl ?_)
          refine gc ?_
          refine r_put3 (W3.got 0 rfl) ?_
          have W4 := W3.put (o' := lsO cl ((st2.p4 (if (decide (t1 ≤ x1)) then (1 : Int) else 0)).p3 (6 : Int))) 0 rfl
          try dsimp only
          obtain ⟨t2, h_t2, hm⟩ := ob hm
          obtain ⟨t3, h_t3, hm⟩ := ob hm
          obtain ⟨t4, h_t4, hm⟩ := ob hm
          refine gseq (gasgG (go (gcb (gcons (go (go (gv rfl ?_)))))))
          refine gc ?_
          refine r_mulI h_t2 (go (gc ?_))
          refine go (gv rfl ?_)
          refine gc ?_
          refine r_ls1 (W4.got 0 rfl) (r_mulI h_t3 (r_i0 (gnil (r_intI (gc ?_)))))
          refine r_modI h_t4 (gsub (gv rfl ?_))
          refine gc ?_
          refine r_put2 (W4.got 0 rfl) ?_
          have W5 := W4.put (o' := lsO cl (((st2.p4 (if (decide (t1 ≤ x1)) then (1 : Int) else 0)).p3 (6 : Int)).p2 t4)) 0 rfl
          try dsimp only
          obtain ⟨s92, h_s92, hm2⟩ := ob hm
          refine sjoin (fun σ H => ∃ (st3 : LS) (B : Hp), σ = [some (.ref sa), some (.int many), some (.int x1), none] ∧ Same B2 B ∧ Wd H0 [sa] B0 B H [(sa, lsO cl st3)] ∧ st3 = s92) ?_ ?_
          · rintro σ H3 ⟨st3, B3, rfl, s3, W6, rfl⟩
            have hm := hm2
            replace hcl := s3 _ _ hcl
            refine gasgG (go (go (gv rfl ?_)))
            refine gc ?_
            refine r_ls1 (W6.got 0 rfl) (gc ?_)
            refine r_i0 (gsub (gv rfl ?_))
            refine gc ?_
            refine r_put1 (W6.got 0 rfl) ?_
            have W9 := W6.put (o' := lsO cl (st3.p1 (st3.a + (1 : Int)))) 0 rfl
            exact hj _ _ ⟨_, _, _, rfl, ((Same.refl _).trans s2).trans s3, W9, Option.some.inj hm⟩
          · intro hj
            have hm := h_s92
            refine gif (gt (go (go (gv rfl ?_))))
            refine gc ?_
            refine r_ls4 (W5.got 0 rfl) (gc ?_)
            refine r_eqI ⟨_, rfl, iteB (fun hb => ?_) (fun hb => ?_)⟩
            · have hm := bt hb hm
              refine gseq (gasgG (gc ?_))
              refine gsub (gv rfl ?_)
              refine gc ?_
              refine r_put3 (W5.got 0 rfl) ?_
              have W7 := W5.put (o' := lsO cl ((((st2.p4 (if (decide (t1 ≤ x1)) then (1 : Int) else 0)).p3 (6 : Int)).p2 t4).p3 (60 : Int))) 0 rfl
              try dsimp only
              obtain ⟨t5, h_t5, hm⟩ := ob hm
              refine gasgG (go (gv rfl ?_))
              refine go (gc ?_)
              refine gc ?_
              refine r_powI h_t5 (r_i0 (gsub (gv rfl ?_)))
              refine gc ?_
              refine r_put2 (W7.got 0 rfl) ?_
              have W8 := W7.put (o' := lsO cl (((((st2.p4 (if (decide (t1 ≤ x1)) then (1 : Int) else 0)).p3 (6 : Int)).p2 t4).p3 (60 : Int)).p2 (x1 - t5))) 0 rfl
              exact hj _ _ ⟨_, _, rfl, Same.refl _, W8, Option.some.inj hm⟩
            · have hm := bf hb hm
              refine gnext ?_
              try dsimp only
              exact hj _ _ ⟨_, _, rfl, Same.refl _, W5, Option.some.inj hm⟩
        · have hm := bf hb hm
          refine gnext ?_
          try dsimp only
          exact hj _ _ ⟨_, _, _, rfl, (Same.refl _).trans s2, W2, Option.some.inj hm⟩

def m_law_signs_l1 (cs : List Int) (p_small : Tx) : List Int → Int → Tx → LS → Option (Int × Tx × LS)
  | [], at11, signs_here1, st3 => some (at11, signs_here1, st3)
  | k11 :: rem1, at11, signs_here1, st3 =>
    (m_law_draw cs st3 (6 : Int)).bind fun (r3, st4) =>
    (ixS p_small ((at11 + (1 : Int)) + r3)).bind fun c2 =>
    (catS signs_here1 [c2]).bind fun t1 =>
    m_law_signs_l1 cs p_small rem1 ((at11 + (1 : Int)) + r3) t1 st4
def m_law_signs (cs : List Int) (st0 : LS) (top : Int) : Option (Tx × LS) :=
  (m_law_draw cs st0 top).bind fun (r1, st1) =>
  (m_law_draw cs st1 (5 : Int)).bind fun (r2, st2) =>
  (ixS (tx "abcdefghijklmnopqrstuvwxyz") r2).bind fun c1 =>
  (rngI (((1 : Int) + r1) - (1 : Int))).bind fun n1 =>
  (m_law_signs_l1 cs (tx "abcdefghijklmnopqrstuvwxyz") (rangeI 0 (((1 : Int) + r1) - (1 : Int)).toNat) r2 [c1] st2).bind fun (at11, signs_here1, st3) =>
  some (signs_here1, st3)
def sp_law_signs (K : KF) : Sp := fun vs H Q _ => ∃ (cl : Addr) (cs : List Int) (sa : Addr) (st0 : LS) (top : Int) (B : Hp) (r : Tx) (st9 : LS), vs = [.ref sa, .int top] ∧ Same B H ∧ H sa = some (lsO cl st0) ∧ B sa = none ∧ B cl = some (.lst (cs.map V.int)) ∧ m_law_signs cs st0 top = some (r, st9) ∧ ∀ v H' B', Aft [sa] B H B' H' → H' sa = some (lsO cl st9) → enc K B' v r → Q v H'
theorem sc_law_signs : FnScope ["_law_state", "_law_top", "_law_small", "_law_count", "_law_at", "_law_signs_here", "_law_k"] ["_law_state", "_law_top"] (defScope (topS 19)) := ⟨rfl, rfl, rfl, by decide +kernel, rfl, by decide +kernel, by decide +kernel⟩
theorem b_law_signs (G : Gd P K mg) : Binds K G.d_law_signs ["_law_state", "_law_top"] [] := G.F_law_signs.bindsN fun _ _ _ _ _ _ us hl => match us, hl with | [_, _], _ => rfl
theorem ok_law_signs (G : Gd P K mg) : FnOk P w K mg base CX0 2 G.f_law_signs G.d_law_signs ["_law_state", "_law_top"] (sp_law_signs K) := by
  refine G.F_law_signs.ok sc_law_signs (fun vs H Q E h => ?_) (fun cdv A outer s H0 vs Q E hr h => ?_)
  · obtain ⟨_, _, _, _, _, _, _, _, rfl, _⟩ := h
    rfl
  · obtain ⟨cl, cs, sa, st0, top, B0, r, st9, rfl, sB, hst, nst, hcl, hm, k⟩ := h
    refine ⟨_, PSs.nox (pss_cons (ps_set (i := 2) sc_law_signs.nd rfl (by first | exact .inl rfl | exact .inr rfl) pe_str)
    (pss_cons (ps_set (i := 3) sc_law_signs.nd rfl (by first | exact .inl rfl | exact .inr rfl) (pe_op op_add pe_int (pe_call (ok_law_draw G) (hr.mono (by decide)) rfl G.g_law_draw G.F_law_draw.kp (b_law_draw G) .nil pass0 (pa_cons (pv 0) (pa_cons (pv 1) pa_nil)))))
    (pss_cons (ps_set (i := 4) sc_law_signs.nd rfl (by first | exact .inl rfl | exact .inr rfl) (pe_call (ok_law_draw G) (hr.mono (by decide)) rfl G.g_law_draw G.F_law_draw.kp (b_law_draw G) .nil pass0 (pa_cons (pv 0) (pa_cons pe_int pa_nil))))
    (pss_cons (ps_set (i := 5) sc_law_signs.nd rfl (by first | exact .inl rfl | exact .inr rfl) (pe_ix ix_str (pv 2) (pv 4) (fun _ _ => rfl)))
    (pss_cons (ps_for PassesOwn.never rfl (pi_range1 rfl G.z_range (pa_cons (pe_op op_sub (pv 3) pe_int) pa_nil)) (pg_name (i := 6) sc_law_signs.nd rfl (by first | exact .inl rfl | exact .inr rfl)) (pss_cons (ps_set (i := 4) sc_law_signs.nd rfl (by first | exact .inl rfl | exact .inr rfl) (pe_op op_add (pe_op op_add (pv 4) pe_int) (pe_call (ok_law_draw G) (hr.mono (by decide)) rfl G.g_law_draw G.F_law_draw.kp (b_law_draw G) .nil pass0 (pa_cons (pv 0) (pa_cons pe_int pa_nil)))))
    (pss_one (ps_set (i := 5) sc_law_signs.nd rfl (by first | exact .inl rfl | exact .inr rfl) (pe_op op_catS (pv 5) (pe_ix ix_str (pv 2) (pv 4) (fun _ _ => rfl)))))))
    (pss_one (ps_ret (pv 5)))))))), ?_⟩
    have W := Wd.start1 sB hst nst
    unfold m_law_signs at hm
    refine gseq (gasg (gs ?_))
    try dsimp only
    obtain ⟨⟨r1, st1⟩, h_r1, hm⟩ := ob hm
    refine gseq (gasg (go (gc ?_)))
    refine gcall (gcons (gv rfl ?_))
    refine gcons (gv rfl ?_)
    refine gnil ⟨cl, cs, _, st0, top, B0, _, _, rfl, W.sub, W.got 0 rfl, W.nb 0 rfl, hcl, h_r1, fun v1 H1 B1 A1 hst e1 => ?_⟩
    have W1 := W.call1 0 rfl A1 hst
    replace hcl := A1.bb _ _ hcl
    obtain rfl : v1 = .int r1 := e1
    refine r_i0 ?_
    try dsimp only
    obtain ⟨⟨r2, st2⟩, h_r2, hm⟩ := ob hm
    refine gseq (gasg (gcall (gcons (gv rfl ?_))))
    refine gcons (gc ?_)
    refine gnil ⟨cl, cs, _, st1, (5 : Int), B1, _, _, rfl, W1.sub, W1.got 0 rfl, W1.nb 0 rfl, hcl, h_r2, fun v2 H2 B2 A2 hst e2 => ?_⟩
    have W2 := W1.call1 0 rfl A2 hst
    replace hcl := A2.bb _ _ hcl
    obtain rfl : v2 = .int r2 := e2
    try dsimp only
    obtain ⟨c1, h_c1, hm⟩ := ob hm
    refine gseq (gasg (go (gv rfl ?_)))
    refine gv rfl ?_
    refine r_ixS h_c1 ?_
    try dsimp only
    obtain ⟨n1, h_n1, hm⟩ := ob hm
    obtain ⟨s91, h_s91, hm1⟩ := ob hm
    refine gseq (gforR (gcons (go (gv rfl ?_))))
    refine gc ?_
    refine r_i0 (gnil ⟨_, rfl, (rngI_lo h_n1), (rngI_hi h_n1), loopR (fun rem1 σ H => ∃ (at11 : Int) (signs_here1 : Tx) (st3 : LS) (o1 : Option V) (B : Hp), σ = [some (.ref sa), some (.int top), some (.str (mkS (tx "abcdefghijklmnopqrstuvwxyz"))), some (.int ((1 : Int) + r1)), some (.int at11), some (.str (mkS signs_here1)), o1] ∧ Same B2 B ∧ Wd H0 [sa] B0 B H [(sa, lsO cl st3)] ∧ m_law_signs_l1 cs (tx "abcdefghijklmnopqrstuvwxyz") rem1 at11 signs_here1 st3 = some s91) ⟨_, _, _, _, _, rfl, Same.refl _, W2, h_s91⟩ ?_ ?_⟩)
    · rintro k11 rem1 σ H3 ⟨at11, signs_here1, st3, o1, B3, rfl, s1, W3, hm⟩
      replace hcl := s1 _ _ hcl
      refine gnm ?_
      obtain ⟨⟨r3, st4⟩, h_r3, hm⟩ := ob hm
      refine gseq (gasg (go (go (gv rfl ?_))))
      refine gc ?_
      refine r_i0 (gcall (gcons (gv rfl ?_)))
      refine gcons (gc ?_)
      refine gnil ⟨cl, cs, _, st3, (6 : Int), B3, _, _, rfl, W3.sub, W3.got 0 rfl, W3.nb 0 rfl, hcl, h_r3, fun v3 H4 B4 A3 hst e3 => ?_⟩
      have W4 := W3.call1 0 rfl A3 hst
      replace hcl := A3.bb _ _ hcl
      obtain rfl : v3 = .int r3 := e3
      refine r_i0 ?_
      try dsimp only
      obtain ⟨c2, h_c2, hm⟩ := ob hm
      obtain ⟨t1, h_t1, hm⟩ := ob hm
      refine gasg (go (gv rfl ?_))
      refine go (gv rfl ?_)
      refine gv rfl ?_
      refine r_ixS h_c2 (r_catS h_t1 ?_)
      exact ⟨_, _, _, _, _, rfl, s1.trans ((Same.refl _).trans A3.bb), W4, hm⟩
    · rintro σ H5 ⟨at11, signs_here1, st3, o1, B5, rfl, s2, W5, hm⟩
      cases Option.some.inj hm
      have hm := hm1
      replace hcl := s2 _ _ hcl
      try dsimp only
      refine gret (gv rfl ?_)
      cases Option.some.inj hm
      exact k _ _ _ W5.aft (W5.got 0 rfl) rfl

def m_law_word_l1 (cs : List Int) (signs_here : Tx) : List Int → Tx → LS → Option (Tx × LS)
  | [], row1, st2 => some (row1, st2)
  | k11 :: rem1, row1, st2 =>
    (lenS signs_here).bind fun t1 =>
    (m_law_draw cs st2 t1).bind fun (r2, st3) =>
    (ixS signs_here r2).bind fun c1 =>
    (catS row1 [c1]).bind fun t2 =>
    m_law_word_l1 cs signs_here rem1 t2 st3
def m_law_word (cs : List Int) (st0 : LS) (signs_here : Tx) (least : Int) (top : Int) : Option (Tx × LS) :=
  (m_law_draw cs st0 ((top - least) + (1 : Int))).bind fun (r1, st1) =>
  (rngI (least + r1)).bind fun n1 =>
  (m_law_word_l1 cs signs_here (rangeI 0 (least + r1).toNat) (tx "") st1).bind fun (row1, st2) =>
  some (row1, st2)
def sp_law_word (K : KF) : Sp := fun vs H Q _ => ∃ (cl : Addr) (cs : List Int) (sa : Addr) (st0 : LS) (signs_here : Tx) (least : Int) (top : Int) (B : Hp) (r : Tx) (st9 : LS), vs = [.ref sa, .str (mkS signs_here), .int least, .int top] ∧ Same B H ∧ H sa = some (lsO cl st0) ∧ B sa = none ∧ B cl = some (.lst (cs.map V.int)) ∧ m_law_word cs st0 signs_here least top = some (r, st9) ∧ ∀ v H' B', Aft [sa] B H B' H' → H' sa = some (lsO cl st9) → enc K B' v r → Q v H'
theorem sc_law_word : FnScope ["_law_state", "_law_signs_here", "_law_least", "_law_top", "_law_row", "_law_k"] ["_law_state", "_law_signs_here", "_law_least", "_law_top"] (defScope (topS 20)) := ⟨rfl, rfl, rfl, by decide +kernel, rfl, by decide +kernel, by decide +kernel⟩
theorem b_law_word (G : Gd P K mg) : Binds K G.d_law_word ["_law_state", "_law_signs_here", "_law_least", "_law_top"] [] := G.F_law_word.bindsN fun _ _ _ _ _ _ us hl => match us, hl with | [_, _, _, _], _ => rfl
theorem ok_law_word (G : Gd P K mg) : FnOk P w K mg base CX0 2 G.f_law_word G.d_law_word ["_law_state", "_law_signs_here", "_law_least", "_law_top"] (sp_law_word K) := by
  refine G.F_law_word.ok sc_law_word (fun vs H Q E h => ?_) (fun cdv A outer s H0 vs Q E hr h => ?_)
  · obtain ⟨_, _, _, _, _, _, _, _, _, _, rfl, _⟩ := h
    rfl
  · obtain ⟨cl, cs, sa, st0, signs_here, least, top, B0, r, st9, rfl, sB, hst, nst, hcl, hm, k⟩ := h
    refine ⟨_, PSs.nox (pss_cons (ps_set (i := 4) sc_law_word.nd rfl (by first | exact .inl rfl | exact .inr rfl) pe_str)
    (pss_cons (ps_for PassesOwn.never rfl (pi_range1 rfl G.z_range (pa_cons (pe_op op_add (pv 2) (pe_call (ok_law_draw G) (hr.mono (by decide)) rfl G.g_law_draw G.F_law_draw.kp (b_law_draw G) .nil pass0 (pa_cons (pv 0) (pa_cons (pe_op op_add (pe_op op_sub (pv 3) (pv 2)) pe_int) pa_nil)))) pa_nil)) (pg_name (i := 5) sc_law_word.nd rfl (by first | exact .inl rfl | exact .inr rfl)) (pss_one (ps_set (i := 4) sc_law_word.nd rfl (by first | exact .inl rfl | exact .inr rfl) (pe_op op_catS (pv 4) (pe_ix ix_str (pv 1) (pe_call (ok_law_draw G) (hr.mono (by decide)) rfl G.g_law_draw G.F_law_draw.kp (b_law_draw G) .nil pass0 (pa_cons (pv 0) (pa_cons (pe_callB call_lenS rfl G.z_len PySem.boot_len (pa_cons (pv 1) pa_nil)) pa_nil))) (fun _ _ => rfl))))))
    (pss_one (ps_ret (pv 4))))), ?_⟩
    have W := Wd.start1 sB hst nst
    unfold m_law_word at hm
    refine gseq (gasg (gs ?_))
    try dsimp only
    obtain ⟨⟨r1, st1⟩, h_r1, hm⟩ := ob hm
    refine gseq (gforR (gcons (go (gv rfl ?_))))
    refine gcall (gcons (gv rfl ?_))
    refine gcons (go (go (gv rfl ?_)))
    refine gv rfl ?_
    refine r_i0 (gc ?_)
    refine r_i0 (gnil ⟨cl, cs, _, st0, ((top - least) + (1 : Int)), B0, _, _, rfl, W.sub, W.got 0 rfl, W.nb 0 rfl, hcl, h_r1, fun v1 H1 B1 A1 hst e1 => ?_⟩)
    have W1 := W.call1 0 rfl A1 hst
    replace hcl := A1.bb _ _ hcl
    obtain rfl : v1 = .int r1 := e1
    obtain ⟨n1, h_n1, hm⟩ := ob hm
    obtain ⟨s91, h_s91, hm1⟩ := ob hm
    refine r_i0 (gnil ⟨_, rfl, (rngI_lo h_n1), (rngI_hi h_n1), loopR (fun rem1 σ H => ∃ (row1 : Tx) (st2 : LS) (o1 : Option V) (B : Hp), σ = [some (.ref sa), some (.str (mkS signs_here)), some (.int least), some (.int top), some (.str (mkS row1)), o1] ∧ Same B1 B ∧ Wd H0 [sa] B0 B H [(sa, lsO cl st2)] ∧ m_law_word_l1 cs signs_here rem1 row1 st2 = some s91) ⟨_, _, _, _, rfl, Same.refl _, W1, h_s91⟩ ?_ ?_⟩)
    · rintro k11 rem1 σ H2 ⟨row1, st2, o1, B2, rfl, s1, W2, hm⟩
      replace hcl := s1 _ _ hcl
      refine gnm ?_
      obtain ⟨t1, h_t1, hm⟩ := ob hm
      obtain ⟨⟨r2, st3⟩, h_r2, hm⟩ := ob hm
      refine gasg (go (gv rfl ?_))
      refine go (gv rfl ?_)
      refine gcall (gcons (gv rfl ?_))
      refine gcons (gcb (gcons (gv rfl ?_)))
      refine gnil (r_lenS h_t1 (gnil ⟨cl, cs, _, st2, t1, B2, _, _, rfl, W2.sub, W2.got 0 rfl, W2.nb 0 rfl, hcl, h_r2, fun v2 H3 B3 A2 hst e2 => ?_⟩))
      have W3 := W2.call1 0 rfl A2 hst
      replace hcl := A2.bb _ _ hcl
      obtain rfl : v2 = .int r2 := e2
      obtain ⟨c1, h_c1, hm⟩ := ob hm
      obtain ⟨t2, h_t2, hm⟩ := ob hm
      refine r_ixS h_c1 (r_catS h_t2 ?_)
      exact ⟨_, _, _, _, rfl, s1.trans ((Same.refl _).trans A2.bb), W3, hm⟩
    · rintro σ H4 ⟨row1, st2, o1, B4, rfl, s2, W4, hm⟩
      cases Option.some.inj hm
      have hm := hm1
      replace hcl := s2 _ _ hcl
      try dsimp only
      refine gret (gv rfl ?_)
      cases Option.some.inj hm
      exact k _ _ _ W4.aft (W4.got 0 rfl) rfl

def m_law_rows_l3 (row1 : Tx) : List Nat → (List Tx) → Option ((List Tx))
  | [], longer2 => some longer2
  | sign1 :: rem3, longer2 =>
    (catS row1 [sign1]).bind fun t1 =>
    (appL longer2 t1).bind fun l4 =>
    m_law_rows_l3 row1 rem3 l4
def m_law_rows_l2 (signs_here : Tx) : List Tx → (List Tx) → Option ((List Tx))
  | [], longer1 => some longer1
  | row1 :: rem2, longer1 =>
    (m_law_rows_l3 row1 signs_here longer1).bind fun longer2 =>
    m_law_rows_l2 signs_here rem2 longer2
def m_law_rows_l1 (signs_here : Tx) : List Int → (List Tx) → (List Tx) → Option ((List Tx) × (List Tx))
  | [], found1, level1 => some (found1, level1)
  | k11 :: rem1, found1, level1 =>
    (m_law_rows_l2 signs_here level1 ([] : List Tx)).bind fun longer1 =>
    (catL found1 longer1).bind fun t2 =>
    m_law_rows_l1 signs_here rem1 t2 longer1
def m_law_rows (signs_here : Tx) (top : Int) : Option (List Tx) :=
  (rngI top).bind fun n1 =>
  (m_law_rows_l1 signs_here (rangeI 0 top.toNat) ([tx ""] : List Tx) ([tx ""] : List Tx)).bind fun (found1, level1) =>
  some found1
def sp_law_rows (K : KF) : Sp := fun vs H Q _ => ∃ (signs_here : Tx) (top : Int) (B : Hp) (r : (List Tx)), vs = [.str (mkS signs_here), .int top] ∧ Same B H ∧ m_law_rows signs_here top = some r ∧ ∀ v H' B', Aft [] B H B' H' → enc K B' v r → Q v H'
theorem sc_law_rows : FnScope ["_law_signs_here", "_law_top", "_law_found", "_law_level", "_law_k", "_law_longer", "_law_row", "_law_sign"] ["_law_signs_here", "_law_top"] (defScope (topS 21)) := ⟨rfl, rfl, rfl, by decide +kernel, rfl, by decide +kernel, by decide +kernel⟩
theorem b_law_rows (G : Gd P K mg) : Binds K G.d_law_rows ["_law_signs_here", "_law_top"] [] := G.F_law_rows.bindsN fun _ _ _ _ _ _ us hl => match us, hl with | [_, _], _ => rfl
theorem ok_law_rows (G : Gd P K mg) : FnOk P w K mg base CX0 1 G.f_law_rows G.d_law_rows ["_law_signs_here", "_law_top"] (sp_law_rows K) := by
  refine G.F_law_rows.ok sc_law_rows (fun vs H Q E h => ?_) (fun cdv A outer s H0 vs Q E hr h => ?_)
  · obtain ⟨_, _, _, _, rfl, _⟩ := h
    rfl
  · obtain ⟨signs_here, top, B0, r, rfl, sB, hm, k⟩ := h
    refine ⟨_, PSs.nox (pss_cons (ps_set (i := 2) sc_law_rows.nd rfl (by first | exact .inl rfl | exact .inr rfl) (pe_lst (pa_cons pe_str pa_nil)))
    (pss_cons (ps_set (i := 3) sc_law_rows.nd rfl (by first | exact .inl rfl | exact .inr rfl) (pe_lst (pa_cons pe_str pa_nil)))
    (pss_cons (ps_for PassesOwn.never rfl (pi_range1 rfl G.z_range (pa_cons (pv 1) pa_nil)) (pg_name (i := 4) sc_law_rows.nd rfl (by first | exact .inl rfl | exact .inr rfl)) (pss_cons (ps_set (i := 5) sc_law_rows.nd rfl (by first | exact .inl rfl | exact .inr rfl) (pe_lst pa_nil))
    (pss_cons (ps_for PassesOwn.never rfl (pi_list (pv 3)) (pg_name (i := 6) sc_law_rows.nd rfl (by first | exact .inl rfl | exact .inr rfl)) (pss_one (ps_for PassesOwn.never rfl (pi_str (pv 0)) (pg_name (i := 7) sc_law_rows.nd rfl (by first | exact .inl rfl | exact .inr rfl)) (pss_one (ps_expr (pe_bm PySem.F.plainAttrs_list PySem.F.slot_list_append PySem.F.type_list_append mt_append (pv 5) (pa_cons (pe_op op_catS (pv 6) (pv 7)) pa_nil)))))))
    (pss_cons (ps_set (i := 3) sc_law_rows.nd rfl (by first | exact .inl rfl | exact .inr rfl) (pe_callTy call_listL rfl G.z_list (by decide +kernel) (pa_cons (pv 5) pa_nil)))
    (pss_one (ps_set (i := 2) sc_law_rows.nd rfl (by first | exact .inl rfl | exact .inr rfl) (pe_op op_cat (pv 2) (pv 3))))))))
    (pss_one (ps_ret (pv 2)))))), ?_⟩
    have W := Wd.start0 sB
    unfold m_law_rows at hm
    refine gseq (gasg (glst (gcons (gs ?_))))
    refine gnil (r_lst (K := K) (α := Tx) W (by show 1 ≤ sizeLine; decide) (EncL.cons (α := Tx) rfl EncL.nil) (fun v1 B1 H1 W1 s1 e1 => ?_))
    try dsimp only
    refine gseq (gasg (glst (gcons (gs ?_))))
    refine gnil (r_lst (K := K) (α := Tx) W1 (by show 1 ≤ sizeLine; decide) (EncL.cons (α := Tx) rfl EncL.nil) (fun v2 B2 H2 W2 s2 e2 => ?_))
    replace e1 := Enc.mono s2 e1
    try dsimp only
    obtain ⟨n1, h_n1, hm⟩ := ob hm
    obtain ⟨s91, h_s91, hm1⟩ := ob hm
    refine gseq (gforR (gcons (gv rfl ?_)))
    refine gnil ⟨_, rfl, (rngI_lo h_n1), (rngI_hi h_n1), loopR (fun rem1 σ H => ∃ (found1 : (List Tx)) (v3 : V) (level1 : (List Tx)) (v4 : V) (o1 : Option V) (o2 : Option V) (o3 : Option V) (o4 : Option V) (B : Hp), σ = [some (.str (mkS signs_here)), some (.int top), some (v3), some (v4), o1, o2, o3, o4] ∧ Same B2 B ∧ Wd H0 [] B0 B H [] ∧ enc K B v3 found1 ∧ enc K B v4 level1 ∧ m_law_rows_l1 signs_here rem1 found1 level1 = some s91) ⟨_, _, _, _, _, _, _, _, _, rfl, Same.refl _, W2, e1, e2, h_s91⟩ ?_ ?_⟩
    · rintro k11 rem1 σ H3 ⟨found1, v3, level1, v4, o1, o2, o3, o4, B3, rfl, s3, W3, e3, e4, hm⟩
      refine gnm ?_
      refine gseq (gasg (glst (gnil ⟨by show 0 ≤ sizeLine; decide, fun a1 n2 => ?_⟩)))
      have el1 : EncL (α := Tx) K B3 [] [] := EncL.nil
      have W4 := W3.newO (o := .lst []) n2
      try dsimp only
      obtain ⟨s92, h_s92, hm2⟩ := ob hm
      obtain ⟨a2, vs2, ea1, hb1, he1⟩ := id e4
      refine gseq (gforL (gv rfl ?_))
      refine ⟨_, ea1, ⟨_, SqL.of (W4.sub _ _ hb1)⟩, loopL he1 (fun rem2 σ H => ∃ (longer1 : (List Tx)) (vs1 : List V) (o5 : Option V) (o6 : Option V) (B : Hp), σ = [some (.str (mkS signs_here)), some (.int top), some (v3), some (v4), some (.int k11), some (.ref a1), o5, o6] ∧ Same B3 B ∧ Wd H0 [] B0 B H [(a1, .lst vs1)] ∧ EncL (α := Tx) K B vs1 longer1 ∧ m_law_rows_l2 signs_here rem2 longer1 = some s92) ⟨_, _, _, _, _, rfl, Same.refl _, W4, el1, h_s92⟩ ?_ ?_ ?_⟩
      · rintro rem2 σ H ⟨longer1, vs1, o5, o6, B, rfl, sm, W, el2, hm⟩
        exact W.sub _ _ (sm _ _ hb1)
      · rintro row1 rem2 v5 σ H5 ⟨longer1, vs1, o5, o6, B4, rfl, s4, W5, el2, hm⟩ e5
        have e6 := Enc.mono s4 e3
        have e7 := Enc.mono s4 e4
        obtain rfl : v5 = .str (mkS row1) := e5
        refine gnm ?_
        obtain ⟨s93, h_s93, hm3⟩ := ob hm
        refine gforS (gv rfl ?_)
        refine ⟨_, rfl, loopS (z := signs_here) (fun rem3 σ H => ∃ (longer2 : (List Tx)) (vs3 : List V) (o7 : Option V) (B : Hp), σ = [some (.str (mkS signs_here)), some (.int top), some (v3), some (v4), some (.int k11), some (.ref a1), some (.str (mkS row1)), o7] ∧ Same B4 B ∧ Wd H0 [] B0 B H [(a1, .lst vs3)] ∧ EncL (α := Tx) K B vs3 longer2 ∧ m_law_rows_l3 row1 rem3 longer2 = some s93) ⟨_, _, _, _, rfl, Same.refl _, W5, el2, h_s93⟩ ?_ ?_⟩
        · rintro sign1 rem3 σ H6 ⟨longer2, vs3, o7, B5, rfl, s5, W6, el3, hm⟩
          have e8 := Enc.mono s5 e6
          have e9 := Enc.mono s5 e7
          refine gnm ?_
          obtain ⟨t1, h_t1, hm⟩ := ob hm
          obtain ⟨l4, h_l4, hm⟩ := ob hm
          refine gdrop (gBM (gv rfl ?_))
          refine ⟨.inl ⟨rfl, _, SqL.of (W6.got 0 rfl)⟩, gcons (go (gv rfl ?_))⟩
          refine gv rfl ?_
          refine r_catS h_t1 (gnil (r_appL (W6.got 0 rfl) el3 h_l4 ?_))
          have el4 : EncL (α := Tx) K B5 (vs3 ++ [.str (mkS t1)]) l4 := appL_enc h_l4 el3 (show enc (α := Tx) K B5 _ t1 from rfl)
          have W7 := W6.put (o' := .lst (vs3 ++ [.str (mkS t1)])) 0 rfl
          exact ⟨_, _, _, _, rfl, s5.trans (Same.refl _), W7, el4, hm⟩
        · rintro σ H7 ⟨longer2, vs3, o7, B6, rfl, s6, W8, el3, hm⟩
          cases Option.some.inj hm
          have hm := hm3
          have e10 := Enc.mono s6 e6
          have e11 := Enc.mono s6 e7
          exact ⟨_, _, _, _, _, rfl, s4.trans ((Same.refl _).trans s6), W8, el3, hm⟩
      · rintro σ H8 ⟨longer1, vs1, o5, o6, B7, rfl, s7, W9, el2, hm⟩
        cases Option.some.inj hm
        have hm := hm2
        have e12 := Enc.mono s7 e3
        have e13 := Enc.mono s7 e4
        try dsimp only
        refine gseq (gasg (gcb (gcons (gv rfl ?_))))
        refine gnil (r_listL (K := K) W9 (LAt.own W9 0 rfl el2) (fun v6 B8 H9 W10 s8 e14 => ?_))
        replace e12 := Enc.mono s8 e12
        replace e13 := Enc.mono s8 e13
        replace el2 := EncL.mono s8 el2
        try dsimp only
        obtain ⟨t2, h_t2, hm⟩ := ob hm
        refine gasg (go (gv rfl ?_))
        refine gv rfl ?_
        refine r_catL W10 (LAt.enc W10.sub e12) (LAt.enc W10.sub e14) h_t2 (fun v7 B9 H10 W11 s9 e15 => ?_)
        replace e12 := Enc.mono s9 e12
        replace e14 := Enc.mono s9 e14
        replace el2 := EncL.mono s9 el2
        have W12 := W11.dropAt 0 rfl (by simp)
        exact ⟨_, _, _, _, _, _, _, _, _, rfl, s3.trans ((((Same.refl _).trans s7).trans s8).trans s9), W12, e15, e14, hm⟩
    · rintro σ H11 ⟨found1, v3, level1, v4, o1, o2, o3, o4, B10, rfl, s10, W13, e3, e4, hm⟩
      cases Option.some.inj hm
      have hm := hm1
      try dsimp only
      refine gret (gv rfl ?_)
      cases Option.some.inj hm
      exact k _ _ _ W13.aft e3

def m_law_renamed_l1 (old : Tx) (new_here : Tx) : List Nat → Tx → Option (Tx)
  | [], out1 => some out1
  | sign1 :: rem1, out1 =>
    (bif decide ((findS old [sign1]) < (0 : Int)) then (some [sign1]) else ((ixS new_here (findS old [sign1])).bind fun c1 =>
    some [c1])).bind fun b1 =>
    (catS out1 b1).bind fun t1 =>
    m_law_renamed_l1 old new_here rem1 t1
def m_law_renamed (row : Tx) (old : Tx) (new_here : Tx) : Option Tx :=
  (m_law_renamed_l1 old new_here row (tx "")).bind fun out1 =>
  some out1
def sp_law_renamed (K : KF) : Sp := fun vs H Q _ => ∃ (row : Tx) (old : Tx) (new_here : Tx) (B : Hp) (r : Tx), vs = [.str (mkS row), .str (mkS old), .str (mkS new_here)] ∧ Same B H ∧ m_law_renamed row old new_here = some r ∧ ∀ v H' B', Aft [] B H B' H' → enc K B' v r → Q v H'
theorem sc_law_renamed : FnScope ["_law_row", "_law_old", "_law_new_here", "_law_out", "_law_sign", "_law_at"] ["_law_row", "_law_old", "_law_new_here"] (defScope (topS 22)) := ⟨rfl, rfl, rfl, by decide +kernel, rfl, by decide +kernel, by decide +kernel⟩
theorem b_law_renamed (G : Gd P K mg) : Binds K G.d_law_renamed ["_law_row", "_law_old", "_law_new_here"] [] := G.F_law_renamed.bindsN fun _ _ _ _ _ _ us hl => match us, hl with | [_, _, _], _ => rfl
theorem ok_law_renamed (G : Gd P K mg) : FnOk P w K mg base CX0 1 G.f_law_renamed G.d_law_renamed ["_law_row", "_law_old", "_law_new_here"] (sp_law_renamed K) := by
  refine G.F_law_renamed.ok sc_law_renamed (fun vs H Q E h => ?_) (fun cdv A outer s H0 vs Q E hr h => ?_)
  · obtain ⟨_, _, _, _, _, rfl, _⟩ := h
    rfl
  · obtain ⟨row, old, new_here, B0, r, rfl, sB, hm, k⟩ := h
    refine ⟨_, PSs.nox (pss_cons (ps_set (i := 3) sc_law_renamed.nd rfl (by first | exact .inl rfl | exact .inr rfl) pe_str)
    (pss_cons (ps_for PassesOwn.never rfl (pi_str (pv 0)) (pg_name (i := 4) sc_law_renamed.nd rfl (by first | exact .inl rfl | exact .inr rfl)) (pss_cons (ps_set (i := 5) sc_law_renamed.nd rfl (by first | exact .inl rfl | exact .inr rfl) (pe_m1 PySem.F.slot_str_find PySem.F.type_str_find mt_findS (pv 1) (pv 4)))
    (pss_one (ps_set (i := 3) sc_law_renamed.nd rfl (by first | exact .inl rfl | exact .inr rfl) (pe_op op_catS (pv 3) (pe_ifExp (pt_cmpR op_lt (pv 5) pe_int (nomark _)) (pv 4) (pe_ix ix_str (pv 2) (pv 5) (fun _ _ => rfl))))))))
    (pss_one (ps_ret (pv 3))))), ?_⟩
    have W := Wd.start0 sB
    unfold m_law_renamed at hm
    refine gseq (gasg (gs ?_))
    try dsimp only
    obtain ⟨s91, h_s91, hm1⟩ := ob hm
    refine gseq (gforS (gv rfl ?_))
    refine ⟨_, rfl, loopS (z := row) (fun rem1 σ H => ∃ (out1 : Tx) (o1 : Option V) (o2 : Option V) (B : Hp), σ = [some (.str (mkS row)), some (.str (mkS old)), some (.str (mkS new_here)), some (.str (mkS out1)), o1, o2] ∧ Same B0 B ∧ Wd H0 [] B0 B H [] ∧ m_law_renamed_l1 old new_here rem1 out1 = some s91) ⟨_, _, _, _, rfl, Same.refl _, W, h_s91⟩ ?_ ?_⟩
    · rintro sign1 rem1 σ H1 ⟨out1, o1, o2, B1, rfl, s1, W1, hm⟩
      refine gnm ?_
      refine gseq (gasg (gM1 (gv rfl ?_)))
      refine ⟨⟨_, rfl⟩, gv rfl ?_⟩
      refine r_findS ?_
      try dsimp only
      obtain ⟨b1, h_b1, hm⟩ := ob hm
      refine gasg (go (gv rfl ?_))
      refine vbox (fun v H => ∃ B : Hp, v = .str (mkS b1) ∧ Same B1 B ∧ Wd H0 [] B0 B H []) ?_ ?_
      · intro Q hQ
        have hm := h_b1
        refine gIfE (gt (go (gv rfl ?_)))
        refine gc ?_
        refine r_i0 ⟨_, rfl, iteB (fun hb => ?_) (fun hb => ?_)⟩
        · have hm := bt hb hm
          refine gv rfl ?_
          cases Option.some.inj hm
          exact hQ _ _ ⟨_, rfl, Same.refl _, W1⟩
        · have hm := bf hb hm
          obtain ⟨c1, h_c1, hm⟩ := ob hm
          refine go (gv rfl ?_)
          refine gv rfl ?_
          refine r_ixS h_c1 ?_
          cases Option.some.inj hm
          exact hQ _ _ ⟨_, rfl, Same.refl _, W1⟩
      · rintro _ H2 ⟨B2, rfl, s2, W2⟩
        obtain ⟨t1, h_t1, hm⟩ := ob hm
        refine r_catS h_t1 ?_
        exact ⟨_, _, _, _, rfl, s1.trans ((Same.refl _).trans s2), W2, hm⟩
    · rintro σ H3 ⟨out1, o1, o2, B3, rfl, s3, W3, hm⟩
      cases Option.some.inj hm
      have hm := hm1
      try dsimp only
      refine gret (gv rfl ?_)
      cases Option.some.inj hm
      exact k _ _ _ W3.aft rfl

def m_law_char (cs : List Int) (st0 : LS) : Option (Tx × LS) :=
  (m_law_draw cs st0 (2 : Int)).bind fun (r1, st1) =>
  bif decide (r1 = (0 : Int)) then ((m_law_draw cs st1 (26 : Int)).bind fun (r2, st2) =>
  (ixS (tx "abcdefghijklmnopqrstuvwxyz") r2).bind fun c1 =>
  some ([c1], st2))
  else ((lenS (tx " !\"#$&'()*+,-./0123456789:;<=>?@ABCDEFGHIJKLMNOPQRSTUVWXYZ[\\]^_`{|}~")).bind fun t1 =>
  (m_law_draw cs st1 t1).bind fun (r3, st3) =>
  (ixS (tx " !\"#$&'()*+,-./0123456789:;<=>?@ABCDEFGHIJKLMNOPQRSTUVWXYZ[\\]^_`{|}~") r3).bind fun c2 =>
  some ([c2], st3))
def sp_law_char (K : KF) : Sp := fun vs H Q _ => ∃ (cl : Addr) (cs : List Int) (sa : Addr) (st0 : LS) (B : Hp) (r : Tx) (st9 : LS), vs = [.ref sa] ∧ Same B H ∧ H sa = some (lsO cl st0) ∧ B sa = none ∧ B cl = some (.lst (cs.map V.int)) ∧ m_law_char cs st0 = some (r, st9) ∧ ∀ v H' B', Aft [sa] B H B' H' → H' sa = some (lsO cl st9) → enc K B' v r → Q v H'
theorem sc_law_char : FnScope ["_law_state", "_law_small", "_law_other"] ["_law_state"] (defScope (topS 23)) := ⟨rfl, rfl, rfl, by decide +kernel, rfl, by decide +kernel, by decide +kernel⟩
theorem b_law_char (G : Gd P K mg) : Binds K G.d_law_char ["_law_state"] [] := G.F_law_char.bindsN fun _ _ _ _ _ _ us hl => match us, hl with | [_], _ => rfl
theorem ok_law_char (G : Gd P K mg) : FnOk P w K mg base CX0 2 G.f_law_char G.d_law_char ["_law_state"] (sp_law_char K) := by
  refine G.F_law_char.ok sc_law_char (fun vs H Q E h => ?_) (fun cdv A outer s H0 vs Q E hr h => ?_)
  · obtain ⟨_, _, _, _, _, _, _, rfl, _⟩ := h
    rfl
  · obtain ⟨cl, cs, sa, st0, B0, r, st9, rfl, sB, hst, nst, hcl, hm, k⟩ := h
    refine ⟨_, PSs.nox (pss_cons (ps_set (i := 1) sc_law_char.nd rfl (by first | exact .inl rfl | exact .inr rfl) pe_str)
    (pss_cons (ps_set (i := 2) sc_law_char.nd rfl (by first | exact .inl rfl | exact .inr rfl) pe_str)
    (pss_cons (ps_if (pt_cmpR op_eq (pe_call (ok_law_draw G) (hr.mono (by decide)) rfl G.g_law_draw G.F_law_draw.kp (b_law_draw G) .nil pass0 (pa_cons (pv 0) (pa_cons pe_int pa_nil))) pe_int (nomark _)) (pss_one (ps_ret (pe_ix ix_str (pv 1) (pe_call (ok_law_draw G) (hr.mono (by decide)) rfl G.g_law_draw G.F_law_draw.kp (b_law_draw G) .nil pass0 (pa_cons (pv 0) (pa_cons pe_int pa_nil))) (fun _ _ => rfl)))) pss_nil)
    (pss_one (ps_ret (pe_ix ix_str (pv 2) (pe_call (ok_law_draw G) (hr.mono (by decide)) rfl G.g_law_draw G.F_law_draw.kp (b_law_draw G) .nil pass0 (pa_cons (pv 0) (pa_cons (pe_callB call_lenS rfl G.z_len PySem.boot_len (pa_cons (pv 2) pa_nil)) pa_nil))) (fun _ _ => rfl))))))), ?_⟩
    have W := Wd.start1 sB hst nst
    unfold m_law_char at hm
    refine gseq (gasg (gs ?_))
    try dsimp only
    refine gseq (gasg (gs ?_))
    try dsimp only
    obtain ⟨⟨r1, st1⟩, h_r1, hm⟩ := ob hm
    refine gseq (gif (gt (go (gcall (gcons (gv rfl ?_))))))
    refine gcons (gc ?_)
    refine gnil ⟨cl, cs, _, st0, (2 : Int), B0, _, _, rfl, W.sub, W.got 0 rfl, W.nb 0 rfl, hcl, h_r1, fun v1 H1 B1 A1 hst e1 => ?_⟩
    have W1 := W.call1 0 rfl A1 hst
    replace hcl := A1.bb _ _ hcl
    obtain rfl : v1 = .int r1 := e1
    refine gc ?_
    refine r_eqI ⟨_, rfl, iteB (fun hb => ?_) (fun hb => ?_)⟩
    · have hm := bt hb hm
      obtain ⟨⟨r2, st2⟩, h_r2, hm⟩ := ob hm
      refine gret (go (gv rfl ?_))
      refine gcall (gcons (gv rfl ?_))
      refine gcons (gc ?_)
      refine gnil ⟨cl, cs, _, st1, (26 : Int), B1, _, _, rfl, W1.sub, W1.got 0 rfl, W1.nb 0 rfl, hcl, h_r2, fun v2 H2 B2 A2 hst e2 => ?_⟩
      have W2 := W1.call1 0 rfl A2 hst
      replace hcl := A2.bb _ _ hcl
      obtain rfl : v2 = .int r2 := e2
      obtain ⟨c1, h_c1, hm⟩ := ob hm
      refine r_ixS h_c1 ?_
      cases Option.some.inj hm
      exact k _ _ _ W2.aft (W2.got 0 rfl) rfl
    · have hm := bf hb hm
      refine gnext ?_
      try dsimp only
      try dsimp only
      obtain ⟨t1, h_t1, hm⟩ := ob hm
      obtain ⟨⟨r3, st3⟩, h_r3, hm⟩ := ob hm
      refine gret (go (gv rfl ?_))
      refine gcall (gcons (gv rfl ?_))
      refine gcons (gcb (gcons (gv rfl ?_)))
      refine gnil (r_lenS h_t1 (gnil ⟨cl, cs, _, st1, t1, B1, _, _, rfl, W1.sub, W1.got 0 rfl, W1.nb 0 rfl, hcl, h_r3, fun v3 H3 B3 A3 hst e3 => ?_⟩))
      have W3 := W1.call1 0 rfl A3 hst
      replace hcl := A3.bb _ _ hcl
      obtain rfl : v3 = .int r3 := e3
      obtain ⟨c2, h_c2, hm⟩ := ob hm
      refine r_ixS h_c2 ?_
      cases Option.some.inj hm
      exact k _ _ _ W3.aft (W3.got 0 rfl) rfl

def m_law_bent (cs : List Int) (st0 : LS) (text : Tx) : Option (Tx × LS) :=
  (m_law_draw cs st0 (5 : Int)).bind fun (r1, st1) =>
  (lenS text).bind fun t1 =>
  (m_law_draw cs st1 (t1 + (1 : Int))).bind fun (r2, st2) =>
  bif decide (r1 = (0 : Int)) then ((slS text none (some r2)).bind fun t2 =>
  (m_law_char cs st2).bind fun (r3, st3) =>
  (catS t2 r3).bind fun t3 =>
  (slS text (some r2) none).bind fun t4 =>
  (catS t3 t4).bind fun t5 =>
  some (t5, st3))
  else (bif decide (r1 = (1 : Int)) then ((slS text none (some r2)).bind fun t6 =>
  (slS text (some (r2 + (1 : Int))) none).bind fun t7 =>
  (catS t6 t7).bind fun t8 =>
  some (t8, st2))
  else (bif decide (r1 = (2 : Int)) then ((slS text none (some r2)).bind fun t9 =>
  (m_law_char cs st2).bind fun (r4, st4) =>
  (catS t9 r4).bind fun t10 =>
  (slS text (some (r2 + (1 : Int))) none).bind fun t11 =>
  (catS t10 t11).bind fun t12 =>
  some (t12, st4))
  else (bif decide (r1 = (3 : Int)) then ((slS text none (some r2)).bind fun t13 =>
  (slS text (some r2) (some (r2 + (1 : Int)))).bind fun t14 =>
  (catS t13 t14).bind fun t15 =>
  (slS text (some r2) none).bind fun t16 =>
  (catS t15 t16).bind fun t17 =>
  some (t17, st2))
  else ((slS text none (some r2)).bind fun t18 =>
  (slS text (some (r2 + (1 : Int))) (some (r2 + (2 : Int)))).bind fun t19 =>
  (catS t18 t19).bind fun t20 =>
  (slS text (some r2) (some (r2 + (1 : Int)))).bind fun t21 =>
  (catS t20 t21).bind fun t22 =>
  (slS text (some (r2 + (2 : Int))) none).bind fun t23 =>
  (catS t22 t23).bind fun t24 =>
  some (t24, st2)))))
def sp_law_bent (K : KF) : Sp := fun vs H Q _ => ∃ (cl : Addr) (cs : List Int) (sa : Addr) (st0 : LS) (text : Tx) (B : Hp) (r : Tx) (st9 : LS), vs = [.ref sa, .str (mkS text)] ∧ Same B H ∧ H sa = some (lsO cl st0) ∧ B sa = none ∧ B cl = some (.lst (cs.map V.int)) ∧ m_law_bent cs st0 text = some (r, st9) ∧ ∀ v H' B', Aft [sa] B H B' H' → H' sa = some (lsO cl st9) → enc K B' v r → Q v H'
theorem sc_law_bent : FnScope ["_law_state", "_law_text", "_law_way", "_law_at"] ["_law_state", "_law_text"] (defScope (topS 24)) := ⟨rfl, rfl, rfl, by decide +kernel, rfl, by decide +kernel, by decide +kernel⟩
theorem b_law_bent (G : Gd P K mg) : Binds K G.d_law_bent ["_law_state", "_law_text"] [] := G.F_law_bent.bindsN fun _ _ _ _ _ _ us hl => match us, hl with | [_, _], _ => rfl
theorem ok_law_bent (G : Gd P K mg) : FnOk P w K mg base CX0 3 G.f_law_bent G.d_law_bent ["_law_state", "_law_text"] (sp_law_bent K) := by
  refine G.F_law_bent.ok sc_law_bent (fun vs H Q E h => ?_) (fun cdv A outer s H0 vs Q E hr h => ?_)
  · obtain ⟨_, _, _, _, _, _, _, _, rfl, _⟩ := h
    rfl
  · obtain ⟨cl, cs, sa, st0, text, B0, r, st9, rfl, sB, hst, nst, hcl, hm, k⟩ := h
    refine ⟨_, PSs.nox (pss_cons (ps_set (i := 2) sc_law_bent.nd rfl (by first | exact .inl rfl | exact .inr rfl) (pe_call (ok_law_draw G) (hr.mono (by decide)) rfl G.g_law_draw G.F_law_draw.kp (b_law_draw G) .nil pass0 (pa_cons (pv 0) (pa_cons pe_int pa_nil))))
    (pss_cons (ps_set (i := 3) sc_law_bent.nd rfl (by first | exact .inl rfl | exact .inr rfl) (pe_call (ok_law_draw G) (hr.mono (by decide)) rfl G.g_law_draw G.F_law_draw.kp (b_law_draw G) .nil pass0 (pa_cons (pv 0) (pa_cons (pe_op op_add (pe_callB call_lenS rfl G.z_len PySem.boot_len (pa_cons (pv 1) pa_nil)) pe_int) pa_nil))))
    (pss_cons (ps_if (pt_cmpR op_eq (pv 2) pe_int (nomark _)) (pss_one (ps_ret (pe_op op_catS (pe_op op_catS (pe_slice sl_str (pv 1) po_none (po_some (pv 3))) (pe_call (ok_law_char G) (hr.mono (by decide)) rfl G.g_law_char G.F_law_char.kp (b_law_char G) .nil pass0 (pa_cons (pv 0) pa_nil))) (pe_slice sl_str (pv 1) (po_some (pv 3)) po_none)))) pss_nil)
    (pss_cons (ps_if (pt_cmpR op_eq (pv 2) pe_int (nomark _)) (pss_one (ps_ret (pe_op op_catS (pe_slice sl_str (pv 1) po_none (po_some (pv 3))) (pe_slice sl_str (pv 1) (po_some (pe_op op_add (pv 3) pe_int)) po_none)))) pss_nil)
    (pss_cons (ps_if (pt_cmpR op_eq (pv 2) pe_int (nomark _)) (pss_one (ps_ret (pe_op op_catS (pe_op op_catS (pe_slice sl_str (pv 1) po_none (po_some (pv 3))) (pe_call (ok_law_char G) (hr.mono (by decide)) rfl G.g_law_char G.F_law_char.kp (b_law_char G) .nil pass0 (pa_cons (pv 0) pa_nil))) (pe_slice sl_str (pv 1) (po_some (pe_op op_add (pv 3) pe_int)) po_none)))) pss_nil)
    (pss_cons (ps_if (pt_cmpR op_eq (pv 2) pe_int (nomark _)) (pss_one (ps_ret (pe_op op_catS (pe_op op_catS (pe_slice sl_str (pv 1) po_none (po_some (pv 3))) (pe_slice sl_str (pv 1) (po_some (pv 3)) (po_some (pe_op op_add (pv 3) pe_int)))) (pe_slice sl_str (pv 1) (po_some (pv 3)) po_none)))) pss_nil)
    (pss_one (ps_ret (pe_op op_catS (pe_op op_catS (pe_op op_catS (pe_slice sl_str (pv 1) po_none (po_some (pv 3))) (pe_slice sl_str (pv 1) (po_some (pe_op op_add (pv 3) pe_int)) (po_some (pe_op op_add (pv 3) pe_int)))) (pe_slice sl_str (pv 1) (po_some (pv 3)) (po_some (pe_op op_add (pv 3) pe_int)))) (pe_slice sl_str (pv 1) (po_some (pe_op op_add (pv 3) pe_int)) po_none)))))))))), ?_⟩
    have W := Wd.start1 sB hst nst
    unfold m_law_bent at hm
    obtain ⟨⟨r1, st1⟩, h_r1, hm⟩ := ob hm
    refine gseq (gasg (gcall (gcons (gv rfl ?_))))
    refine gcons (gc ?_)
    refine gnil ⟨cl, cs, _, st0, (5 : Int), B0, _, _, rfl, W.sub, W.got 0 rfl, W.nb 0 rfl, hcl, h_r1, fun v1 H1 B1 A1 hst e1 => ?_⟩
    have W1 := W.call1 0 rfl A1 hst
    replace hcl := A1.bb _ _ hcl
    obtain rfl : v1 = .int r1 := e1
    try dsimp only
    obtain ⟨t1, h_t1, hm⟩ := ob hm
    obtain ⟨⟨r2, st2⟩, h_r2, hm⟩ := ob hm
    refine gseq (gasg (gcall (gcons (gv rfl ?_))))
    refine gcons (go (gcb (gcons (gv rfl ?_))))
    refine gnil (r_lenS h_t1 (gc ?_))
    refine r_i0 (gnil ⟨cl, cs, _, st1, (t1 + (1 : Int)), B1, _, _, rfl, W1.sub, W1.got 0 rfl, W1.nb 0 rfl, hcl, h_r2, fun v2 H2 B2 A2 hst e2 => ?_⟩)
    have W2 := W1.call1 0 rfl A2 hst
    replace hcl := A2.bb _ _ hcl
    obtain rfl : v2 = .int r2 := e2
    try dsimp only
    refine gseq (gif (gt (go (gv rfl ?_))))
    refine gc ?_
    refine r_eqI ⟨_, rfl, iteB (fun hb => ?_) (fun hb => ?_)⟩
    · have hm := bt hb hm
      obtain ⟨t2, h_t2, hm⟩ := ob hm
      obtain ⟨⟨r3, st3⟩, h_r3, hm⟩ := ob hm
      refine gret (go (go (gsl (gv rfl ?_))))
      refine gpn (gps (gv rfl ?_))
      refine ⟨_, rfl, r_slS h_t2 (gcall (gcons (gv rfl ?_)))⟩
      refine gnil ⟨cl, cs, _, st2, B2, _, _, rfl, W2.sub, W2.got 0 rfl, W2.nb 0 rfl, hcl, h_r3, fun v3 H3 B3 A3 hst e3 => ?_⟩
      have W3 := W2.call1 0 rfl A3 hst
      replace hcl := A3.bb _ _ hcl
      obtain rfl : v3 = .str (mkS r3) := e3
      obtain ⟨t3, h_t3, hm⟩ := ob hm
      obtain ⟨t4, h_t4, hm⟩ := ob hm
      obtain ⟨t5, h_t5, hm⟩ := ob hm
      refine r_catS h_t3 (gsl (gv rfl ?_))
      refine gps (gv rfl ?_)
      refine ⟨_, rfl, gpn (r_slS h_t4 (r_catS h_t5 ?_))⟩
      cases Option.some.inj hm
      exact k _ _ _ W3.aft (W3.got 0 rfl) rfl
    · have hm := bf hb hm
      refine gnext ?_
      try dsimp only
      try dsimp only
      refine gseq (gif (gt (go (gv rfl ?_))))
      refine gc ?_
      refine r_eqI ⟨_, rfl, iteB (fun hb => ?_) (fun hb => ?_)⟩
      · have hm := bt hb hm
        obtain ⟨t6, h_t6, hm⟩ := ob hm
        obtain ⟨t7, h_t7, hm⟩ := ob hm
        obtain ⟨t8, h_t8, hm⟩ := ob hm
        refine gret (go (gsl (gv rfl ?_)))
        refine gpn (gps (gv rfl ?_))
        refine ⟨_, rfl, r_slS h_t6 (gsl (gv rfl ?_))⟩
        refine gps (go (gv rfl ?_))
        refine gc ?_
        refine r_i0 ⟨_, rfl, gpn (r_slS h_t7 (r_catS h_t8 ?_))⟩
        cases Option.some.inj hm
        exact k _ _ _ W2.aft (W2.got 0 rfl) rfl
      · have hm := bf hb hm
        refine gnext ?_
        try dsimp only
        try dsimp only
        refine gseq (gif (gt (go (gv rfl ?_))))
        refine gc ?_
        refine r_eqI ⟨_, rfl, iteB (fun hb => ?_) (fun hb => ?_)⟩
        · have hm := bt hb hm
          obtain ⟨t9, h_t9, hm⟩ := ob hm
          obtain ⟨⟨r4, st4⟩, h_r4, hm⟩ := ob hm
          refine gret (go (go (gsl (gv rfl ?_))))
          refine gpn (gps (gv rfl ?_))
          refine ⟨_, rfl, r_slS h_t9 (gcall (gcons (gv rfl ?_)))⟩
          refine gnil ⟨cl, cs, _, st2, B2, _, _, rfl, W2.sub, W2.got 0 rfl, W2.nb 0 rfl, hcl, h_r4, fun v4 H4 B4 A4 hst e4 => ?_⟩
          have W4 := W2.call1 0 rfl A4 hst
          replace hcl := A4.bb _ _ hcl
          obtain rfl : v4 = .str (mkS r4) := e4
          obtain ⟨t10, h_t10, hm⟩ := ob hm
          obtain ⟨t11, h_t11, hm⟩ := ob hm
          obtain ⟨t12, h_t12, hm⟩ := ob hm
          refine r_catS h_t10 (gsl (gv rfl ?_))
          refine gps (go (gv rfl ?_))
          refine gc ?_
          refine r_i0 ⟨_, rfl, gpn (r_slS h_t11 (r_catS h_t12 ?_))⟩
          cases Option.some.inj hm
          exact k _ _ _ W4.aft (W4.got 0 rfl) rfl
        · have hm := bf hb hm
          refine gnext ?_
          try dsimp only
          try dsimp only
          refine gseq (gif (gt (go (gv rfl ?_))))
          refine gc ?_
          refine r_eqI ⟨_, rfl, iteB (fun hb => ?_) (fun hb => ?_)⟩
          · have hm := bt hb hm
            obtain ⟨t13, h_t13, hm⟩ := ob hm
            obtain ⟨t14, h_t14, hm⟩ := ob hm
            obtain ⟨t15, h_t15, hm⟩ := ob hm
            obtain ⟨t16, h_t16, hm⟩ := ob hm
            obtain ⟨t17, h_t17, hm⟩ := ob hm
            refine gret (go (go (gsl (gv rfl ?_))))
            refine gpn (gps (gv rfl ?_))
            refine ⟨_, rfl, r_slS h_t13 (gsl (gv rfl ?_))⟩
            refine gps (gv rfl ?_)
            refine ⟨_, rfl, gps (go (gv rfl ?_))⟩
            refine gc ?_
            refine r_i0 ⟨_, rfl, r_slS h_t14 (r_catS h_t15 (gsl (gv rfl ?_)))⟩
            refine gps (gv rfl ?_)
            refine ⟨_, rfl, gpn (r_slS h_t16 (r_catS h_t17 ?_))⟩
            cases Option.some.inj hm
            exact k _ _ _ W2.aft (W2.got 0 rfl) rfl
          · have hm := bf hb hm
            refine gnext ?_
            try dsimp only
            try dsimp only
            obtain ⟨t18, h_t18, hm⟩ := ob hm
            obtain ⟨t19, h_t19, hm⟩ := ob hm
            obtain ⟨t20, h_t20, hm⟩ := ob hm
            obtain ⟨t21, h_t21, hm⟩ := ob hm
            obtain ⟨t22, h_t22, hm⟩ := ob hm
            obtain ⟨t23, h_t23, hm⟩ := ob hm
            obtain ⟨t24, h_t24, hm⟩ := ob hm
            refine gret (go (go (go (gsl (gv rfl ?_)))))
            refine gpn (gps (gv rfl ?_))
            refine ⟨_, rfl, r_slS h_t18 (gsl (gv rfl ?_))⟩
            refine gps (go (gv rfl ?_))
            refine gc ?_
            refine r_i0 ⟨_, rfl, gps (go (gv rfl ?_))⟩
            refine gc ?_
            refine r_i0 ⟨_, rfl, r_slS h_t19 (r_catS h_t20 (gsl (gv rfl ?_)))⟩
            refine gps (gv rfl ?_)
            refine ⟨_, rfl, gps (go (gv rfl ?_))⟩
            refine gc ?_
            refine r_i0 ⟨_, rfl, r_slS h_t21 (r_catS h_t22 (gsl (gv rfl ?_)))⟩
            refine gps (go (gv rfl ?_))
            refine gc ?_
            refine r_i0 ⟨_, rfl, gpn (r_slS h_t23 (r_catS h_t24 ?_))⟩
            cases Option.some.inj hm
            exact k _ _ _ W2.aft (W2.got 0 rfl) rfl

def m_law_unlike_l1 (cs : List Int) : List Int → (List Ch) → Tx → LS → Option ((List Ch) × Tx × LS)
  | [], left1, out1, st1 => some (left1, out1, st1)
  | k11 :: rem1, left1, out1, st1 =>
    (m_law_draw cs st1 (left1.length : Int)).bind fun (r1, st2) =>
    (popL left1 r1).bind fun (x1, l2) =>
    (catS out1 [x1.c]).bind fun t2 =>
    m_law_unlike_l1 cs rem1 l2 t2 st2
def m_law_unlike (cs : List Int) (st0 : LS) (pool : Tx) (count : Int) : Option (Tx × LS) :=
  (lstS pool).bind fun t1 =>
  (rngI count).bind fun n1 =>
  (m_law_unlike_l1 cs (rangeI 0 count.toNat) t1 (tx "") st0).bind fun (left1, out1, st1) =>
  some (out1, st1)
def sp_law_unlike (K : KF) : Sp := fun vs H Q _ => ∃ (cl : Addr) (cs : List Int) (sa : Addr) (st0 : LS) (pool : Tx) (count : Int) (B : Hp) (r : Tx) (st9 : LS), vs = [.ref sa, .str (mkS pool), .int count] ∧ Same B H ∧ H sa = some (lsO cl st0) ∧ B sa = none ∧ B cl = some (.lst (cs.map V.int)) ∧ m_law_unlike cs st0 pool count = some (r, st9) ∧ ∀ v H' B', Aft [sa] B H B' H' → H' sa = some (lsO cl st9) → enc K B' v r → Q v H'
theorem sc_law_unlike : FnScope ["_law_state", "_law_pool", "_law_count", "_law_left", "_law_out", "_law_k"] ["_law_state", "_law_pool", "_law_count"] (defScope (topS 25)) := ⟨rfl, rfl, rfl, by decide +kernel, rfl, by decide +kernel, by decide +kernel⟩
theorem b_law_unlike (G : Gd P K mg) : Binds K G.d_law_unlike ["_law_state", "_law_pool", "_law_count"] [] := G.F_law_unlike.bindsN fun _ _ _ _ _ _ us hl => match us, hl with | [_, _, _], _ => rfl
theorem ok_law_unlike (G : Gd P K mg) : FnOk P w K mg base CX0 2 G.f_law_unlike G.d_law_unlike ["_law_state", "_law_pool", "_law_count"] (sp_law_unlike K) := by
  refine G.F_law_unlike.ok sc_law_unlike (fun vs H Q E h => ?_) (fun cdv A outer s H0 vs Q E hr h => ?_)
  · obtain ⟨_, _, _, _, _, _, _, _, _, rfl, _⟩ := h
    rfl
  · obtain ⟨cl, cs, sa, st0, pool, count, B0, r, st9, rfl, sB, hst, nst, hcl, hm, k⟩ := h
    refine ⟨_, PSs.nox (pss_cons (ps_set (i := 3) sc_law_unlike.nd rfl (by first | exact .inl rfl | exact .inr rfl) (pe_callTy (call_listS (by exact hr.hd)) rfl G.z_list (by decide +kernel) (pa_cons (pv 1) pa_nil)))
    (pss_cons (ps_set (i := 4) sc_law_unlike.nd rfl (by first | exact .inl rfl | exact .inr rfl) pe_str)
    (pss_cons (ps_for PassesOwn.never rfl (pi_range1 rfl G.z_range (pa_cons (pv 2) pa_nil)) (pg_name (i := 5) sc_law_unlike.nd rfl (by first | exact .inl rfl | exact .inr rfl)) (pss_one (ps_set (i := 4) sc_law_unlike.nd rfl (by first | exact .inl rfl | exact .inr rfl) (pe_op op_catS (pv 4) (pe_bm PySem.F.plainAttrs_list PySem.F.slot_list_pop PySem.F.type_list_pop mt_popAt (pv 3) (pa_cons (pe_call (ok_law_draw G) (hr.mono (by decide)) rfl G.g_law_draw G.F_law_draw.kp (b_law_draw G) .nil pass0 (pa_cons (pv 0) (pa_cons (pe_callB call_lenL rfl G.z_len PySem.boot_len (pa_cons (pv 3) pa_nil)) pa_nil))) pa_nil))))))
    (pss_one (ps_ret (pv 4)))))), ?_⟩
    have W := Wd.start1 sB hst nst
    unfold m_law_unlike at hm
    obtain ⟨t1, h_t1, hm⟩ := ob hm
    refine gseq (gasg (gcb (gcons (gv rfl ?_))))
    refine gnil (r_listSO (K := K) W h_t1 (fun a1 vs1 H1 W1 el1 => ?_))
    try dsimp only
    refine gseq (gasg (gs ?_))
    try dsimp only
    obtain ⟨n1, h_n1, hm⟩ := ob hm
    obtain ⟨s91, h_s91, hm1⟩ := ob hm
    refine gseq (gforR (gcons (gv rfl ?_)))
    refine gnil ⟨_, rfl, (rngI_lo h_n1), (rngI_hi h_n1), loopR (fun rem1 σ H => ∃ (left1 : (List Ch)) (vs2 : List V) (out1 : Tx) (st1 : LS) (o1 : Option V) (B : Hp), σ = [some (.ref sa), some (.str (mkS pool)), some (.int count), some (.ref a1), some (.str (mkS out1)), o1] ∧ Same B0 B ∧ Wd H0 [sa] B0 B H [(a1, .lst vs2), (sa, lsO cl st1)] ∧ EncL (α := Ch) K B vs2 left1 ∧ m_law_unlike_l1 cs rem1 left1 out1 st1 = some s91) ⟨_, _, _, _, _, _, rfl, Same.refl _, W1, el1, h_s91⟩ ?_ ?_⟩
    · rintro k11 rem1 σ H2 ⟨left1, vs2, out1, st1, o1, B1, rfl, s1, W2, el2, hm⟩
      replace hcl := s1 _ _ hcl
      refine gnm ?_
      obtain ⟨⟨r1, st2⟩, h_r1, hm⟩ := ob hm
      refine gasg (go (gv rfl ?_))
      refine gBM (gv rfl ?_)
      refine ⟨.inl ⟨rfl, _, SqL.of (W2.got 0 rfl)⟩, gcons (gcall (gcons (gv rfl ?_)))⟩
      refine gcons (gcb (gcons (gv rfl ?_)))
      refine gnil (r_lenL (LAt.own W2 0 rfl el2) (gnil ⟨cl, cs, _, st1, (left1.length : Int), B1, _, _, rfl, W2.sub, W2.got 1 rfl, W2.nb 1 rfl, hcl, h_r1, fun v1 H3 B2 A1 hst e1 => ?_⟩))
      have W3 := W2.call1 1 rfl A1 hst
      replace el2 := EncL.mono A1.bb el2
      replace hcl := A1.bb _ _ hcl
      obtain rfl : v1 = .int r1 := e1
      obtain ⟨⟨x1, l2⟩, h_x1, hm⟩ := ob hm
      refine gnil (r_popL (W3.got 0 rfl) el2 h_x1 (fun v2 vs3 e2 el3 => ?_))
      have W4 := W3.put (o' := .lst vs3) 0 rfl
      obtain rfl : v2 = .str (mkS [x1.c]) := e2
      obtain ⟨t2, h_t2, hm⟩ := ob hm
      refine r_catS h_t2 ?_
      exact ⟨_, _, _, _, _, _, rfl, s1.trans ((Same.refl _).trans A1.bb), W4, el3, hm⟩
    · rintro σ H4 ⟨left1, vs2, out1, st1, o1, B3, rfl, s2, W5, el2, hm⟩
      cases Option.some.inj hm
      have hm := hm1
      replace hcl := s2 _ _ hcl
      try dsimp only
      refine gret (gv rfl ?_)
      cases Option.some.inj hm
      exact k _ _ _ W5.aft (W5.got 1 rfl) rfl

def m_law_is_group_l1 : List Nat → Option (Ct Unit Bool)
  | [] => some (.nx ())
  | char_here1 :: rem1 =>
    bif !decide (char_here1 ∈ tx "abcdefghijklmnopqrstuvwxyz") then (some (.rt false))
    else (m_law_is_group_l1 rem1)
def m_law_is_group (text : Tx) : Option Bool :=
  cbind (m_law_is_group_l1 text) (fun r => some r) fun _ =>
  some (!decide (text = tx ""))
def sp_law_is_group (K : KF) : Sp := fun vs H Q _ => ∃ (text : Tx) (B : Hp) (r : Bool), vs = [.str (mkS text)] ∧ Same B H ∧ m_law_is_group text = some r ∧ ∀ v H' B', Aft [] B H B' H' → enc K B' v r → Q v H'
theorem sc_law_is_group : FnScope ["_law_text", "_law_char_here"] ["_law_text"] (defScope (topS 26)) := ⟨rfl, rfl, rfl, by decide +kernel, rfl, by decide +kernel, by decide +kernel⟩
theorem b_law_is_group (G : Gd P K mg) : Binds K G.d_law_is_group ["_law_text"] [] := G.F_law_is_group.bindsN fun _ _ _ _ _ _ us hl => match us, hl with | [_], _ => rfl
theorem ok_law_is_group (G : Gd P K mg) : FnOk P w K mg base CX0 1 G.f_law_is_group G.d_law_is_group ["_law_text"] (sp_law_is_group K) := by
  refine G.F_law_is_group.ok sc_law_is_group (fun vs H Q E h => ?_) (fun cdv A outer s H0 vs Q E hr h => ?_)
  · obtain ⟨_, _, _, rfl, _⟩ := h
    rfl
  · obtain ⟨text, B0, r, rfl, sB, hm, k⟩ := h
    refine ⟨_, PSs.nox (pss_cons (ps_for PassesOwn.never rfl (pi_str (pv 0)) (pg_name (i := 1) sc_law_is_group.nd rfl (by first | exact .inl rfl | exact .inr rfl)) (pss_one (ps_if (pt_cmpR op_notInS (pv 1) pe_str rfl) (pss_one (ps_ret pe_bl)) pss_nil)))
    (pss_one (ps_ret (pe_cmpR op_ne (pv 0) pe_str (nomark _))))), ?_⟩
    have W := Wd.start0 sB
    unfold m_law_is_group at hm
    obtain ⟨s91, h_s91, hm1⟩ := ob hm
    refine gseq (gforS (gv rfl ?_))
    refine ⟨_, rfl, loopS (z := text) (fun rem1 σ H => ∃ (o1 : Option V) (B : Hp), σ = [some (.str (mkS text)), o1] ∧ Same B0 B ∧ Wd H0 [] B0 B H [] ∧ m_law_is_group_l1 rem1 = some s91) ⟨_, _, rfl, Same.refl _, W, h_s91⟩ ?_ ?_⟩
    · rintro char_here1 rem1 σ H1 ⟨o1, B1, rfl, s1, W1, hm⟩
      refine gnm ?_
      refine gif (gt (go (gv rfl ?_)))
      refine gs ?_
      refine r_ninC ⟨_, rfl, iteB (fun hb => ?_) (fun hb => ?_)⟩
      · have hm := bt hb hm
        refine gret (gc ?_)
        cases Option.some.inj hm
        cases Option.some.inj hm1
        exact k _ _ _ W1.aft rfl
      · have hm := bf hb hm
        refine gnext ?_
        try dsimp only
        exact ⟨_, _, rfl, s1.trans (Same.refl _), W1, hm⟩
    · rintro σ H2 ⟨o1, B2, rfl, s2, W2, hm⟩
      cases Option.some.inj hm
      have hm := hm1
      try dsimp only
      refine gret (go (gv rfl ?_))
      refine gs ?_
      refine r_neS ?_
      cases Option.some.inj hm
      exact k _ _ _ W2.aft rfl

def m_law_is_alphabet_l1 (text : Tx) : List Int → Option (Ct Unit Bool)
  | [] => some (.nx ())
  | k11 :: rem1 =>
    (ixS text k11).bind fun c1 =>
    (ixS text (k11 + (1 : Int))).bind fun c2 =>
    bif !(decide ([c1] < [c2])) then (some (.rt false))
    else (m_law_is_alphabet_l1 text rem1)
def m_law_is_alphabet (text : Tx) : Option Bool :=
  ((m_law_is_group text).bind fun r1 =>
  bif !r1 then (some true) else ((lenS text).bind fun t1 =>
  some (decide ((4 : Int) < t1)))).bind fun b1 =>
  bif b1 then (some false)
  else ((lenS text).bind fun t2 =>
  (rngI (t2 - (1 : Int))).bind fun n1 =>
  cbind (m_law_is_alphabet_l1 text (rangeI 0 (t2 - (1 : Int)).toNat)) (fun r => some r) fun _ =>
  some true)
def sp_law_is_alphabet (K : KF) : Sp := fun vs H Q _ => ∃ (text : Tx) (B : Hp) (r : Bool), vs = [.str (mkS text)] ∧ Same B H ∧ m_law_is_alphabet text = some r ∧ ∀ v H' B', Aft [] B H B' H' → enc K B' v r → Q v H'
theorem sc_law_is_alphabet : FnScope ["_law_text", "_law_k"] ["_law_text"] (defScope (topS 27)) := ⟨rfl, rfl, rfl, by decide +kernel, rfl, by decide +kernel, by decide +kernel⟩
theorem b_law_is_alphabet (G : Gd P K mg) : Binds K G.d_law_is_alphabet ["_law_text"] [] := G.F_law_is_alphabet.bindsN fun _ _ _ _ _ _ us hl => match us, hl with | [_], _ => rfl
theorem ok_law_is_alphabet (G : Gd P K mg) : FnOk P w K mg base CX0 2 G.f_law_is_alphabet G.d_law_is_alphabet ["_law_text"] (sp_law_is_alphabet K) := by
  refine G.F_law_is_alphabet.ok sc_law_is_alphabet (fun vs H Q E h => ?_) (fun cdv A outer s H0 vs Q E hr h => ?_)
  · obtain ⟨_, _, _, rfl, _⟩ := h
    rfl
  · obtain ⟨text, B0, r, rfl, sB, hm, k⟩ := h
    refine ⟨_, PSs.nox (pss_cons (ps_if (PW.pt (pw_or (pt_not (pt_val (pe_call (ok_law_is_group G) (hr.mono (by decide)) rfl G.g_law_is_group G.F_law_is_group.kp (b_law_is_group G) .nil pass0 (pa_cons (pv 0) pa_nil)))) (pw_or1 (pt_cmpR op_gt (pe_callB call_lenS rfl G.z_len PySem.boot_len (pa_cons (pv 0) pa_nil)) pe_int (nomark _))))) (pss_one (ps_ret pe_bl)) pss_nil)
    (pss_cons (ps_for PassesOwn.never rfl (pi_range1 rfl G.z_range (pa_cons (pe_op op_sub (pe_callB call_lenS rfl G.z_len PySem.boot_len (pa_cons (pv 0) pa_nil)) pe_int) pa_nil)) (pg_name (i := 1) sc_law_is_alphabet.nd rfl (by first | exact .inl rfl | exact .inr rfl)) (pss_one (ps_if (pt_not (pt_cmpR op_ltS (pe_ix ix_str (pv 0) (pv 1) (fun _ _ => rfl)) (pe_ix ix_str (pv 0) (pe_op op_add (pv 1) pe_int) (fun _ _ => rfl)) (nomark _))) (pss_one (ps_ret pe_bl)) pss_nil)))
    (pss_one (ps_ret pe_bl)))), ?_⟩
    have W := Wd.start0 sB
    unfold m_law_is_alphabet at hm
    obtain ⟨b1, h_b1, hm⟩ := ob hm
    refine gseq (gif (tbox (fun b H => ∃ B : Hp, b = b1 ∧ Same B0 B ∧ Wd H0 [] B0 B H []) ?_ ?_))
    · intro Q hQ
      have hm := h_b1
      obtain ⟨r1, h_r1, hm⟩ := ob hm
      refine gOr (gN (gB (gcall (gcons (gv rfl ?_)))))
      refine gnil ⟨text, B0, _, rfl, W.sub, h_r1, fun v1 H2 B2 A1 e1 => ?_⟩
      have W2 := W.call0 A1
      obtain rfl : v1 = .bl r1 := e1
      refine ⟨_, rfl, iteB (fun hb => ?_) (fun hb => ?_)⟩
      · have hm := bt hb hm
        cases Option.some.inj hm
        exact hQ _ _ ⟨_, rfl, (Same.refl _).trans A1.bb, W2⟩
      · have hm := bf hb hm
        obtain ⟨t1, h_t1, hm⟩ := ob hm
        refine gt (go (gcb (gcons (gv rfl ?_))))
        refine gnil (r_lenS h_t1 (gc ?_))
        refine r_i0 ⟨_, rfl, ?_⟩
        cases Option.some.inj hm
        exact hQ _ _ ⟨_, rfl, (Same.refl _).trans A1.bb, W2⟩
    · rintro _ H1 ⟨B1, rfl, s1, W1⟩
      refine iteB (fun hb => ?_) (fun hb => ?_)
      · have hm := bt hb hm
        refine gret (gc ?_)
        cases Option.some.inj hm
        exact k _ _ _ W1.aft rfl
      · have hm := bf hb hm
        refine gnext ?_
        try dsimp only
        try dsimp only
        obtain ⟨t2, h_t2, hm⟩ := ob hm
        obtain ⟨n1, h_n1, hm⟩ := ob hm
        obtain ⟨s91, h_s91, hm1⟩ := ob hm
        refine gseq (gforR (gcons (go (gcb (gcons (gv rfl ?_))))))
        refine gnil (r_lenS h_t2 (gc ?_))
        refine r_i0 (gnil ⟨_, rfl, (rngI_lo h_n1), (rngI_hi h_n1), loopR (fun rem1 σ H => ∃ (o1 : Option V) (B : Hp), σ = [some (.str (mkS text)), o1] ∧ Same B1 B ∧ Wd H0 [] B0 B H [] ∧ m_law_is_alphabet_l1 text rem1 = some s91) ⟨_, _, rfl, Same.refl _, W1, h_s91⟩ ?_ ?_⟩)
        · rintro k11 rem1 σ H3 ⟨o1, B3, rfl, s2, W3, hm⟩
          refine gnm ?_
          obtain ⟨c1, h_c1, hm⟩ := ob hm
          obtain ⟨c2, h_c2, hm⟩ := ob hm
          refine gif (gN (gt (go (go (gv rfl ?_)))))
          refine gv rfl ?_
          refine r_ixS h_c1 (go (gv rfl ?_))
          refine go (gv rfl ?_)
          refine gc ?_
          refine r_i0 (r_ixS h_c2 (r_ltS ⟨_, rfl, iteB (fun hb => ?_) (fun hb => ?_)⟩))
          · have hm := bt hb hm
            refine gret (gc ?_)
            cases Option.some.inj hm
            cases Option.some.inj hm1
            exact k _ _ _ W3.aft rfl
          · have hm := bf hb hm
            refine gnext ?_
            try dsimp only
            exact ⟨_, _, rfl, s2.trans (Same.refl _), W3, hm⟩
        · rintro σ H4 ⟨o1, B4, rfl, s3, W4, hm⟩
          cases Option.some.inj hm
          have hm := hm1
          try dsimp only
          refine gret (gc ?_)
          cases Option.some.inj hm
          exact k _ _ _ W4.aft rfl

def m_law_strange_l1 (signs_here : Tx) : List Nat → Option (Ct Unit Tx)
  | [] => some (.nx ())
  | char_here1 :: rem1 =>
    bif !decide (char_here1 ∈ signs_here) then (some (.rt [char_here1]))
    else (m_law_strange_l1 signs_here rem1)
def m_law_strange (row : Tx) (signs_here : Tx) : Option Tx :=
  cbind (m_law_strange_l1 signs_here row) (fun r => some r) fun _ =>
  some (tx "")
def sp_law_strange (K : KF) : Sp := fun vs H Q _ => ∃ (row : Tx) (signs_here : Tx) (B : Hp) (r : Tx), vs = [.str (mkS row), .str (mkS signs_here)] ∧ Same B H ∧ m_law_strange row signs_here = some r ∧ ∀ v H' B', Aft [] B H B' H' → enc K B' v r → Q v H'
theorem sc_law_strange : FnScope ["_law_row", "_law_signs_here", "_law_char_here"] ["_law_row", "_law_signs_here"] (defScope (topS 28)) := ⟨rfl, rfl, rfl, by decide +kernel, rfl, by decide +kernel, by decide +kernel⟩
theorem b_law_strange (G : Gd P K mg) : Binds K G.d_law_strange ["_law_row", "_law_signs_here"] [] := G.F_law_strange.bindsN fun _ _ _ _ _ _ us hl => match us, hl with | [_, _], _ => rfl
theorem ok_law_strange (G : Gd P K mg) : FnOk P w K mg base CX0 1 G.f_law_strange G.d_law_strange ["_law_row", "_law_signs_here"] (sp_law_strange K) := by
  refine G.F_law_strange.ok sc_law_strange (fun vs H Q E h => ?_) (fun cdv A outer s H0 vs Q E hr h => ?_)
  · obtain ⟨_, _, _, _, rfl, _⟩ := h
    rfl
  · obtain ⟨row, signs_here, B0, r, rfl, sB, hm, k⟩ := h
    refine ⟨_, PSs.nox (pss_cons (ps_for PassesOwn.never rfl (pi_str (pv 0)) (pg_name (i := 2) sc_law_strange.nd rfl (by first | exact .inl rfl | exact .inr rfl)) (pss_one (ps_if (pt_cmpR op_notInS (pv 2) (pv 1) rfl) (pss_one (ps_ret (pv 2))) pss_nil)))
    (pss_one (ps_ret pe_str))), ?_⟩
    have W := Wd.start0 sB
    unfold m_law_strange at hm
    obtain ⟨s91, h_s91, hm1⟩ := ob hm
    refine gseq (gforS (gv rfl ?_))
    refine ⟨_, rfl, loopS (z := row) (fun rem1 σ H => ∃ (o1 : Option V) (B : Hp), σ = [some (.str (mkS row)), some (.str (mkS signs_here)), o1] ∧ Same B0 B ∧ Wd H0 [] B0 B H [] ∧ m_law_strange_l1 signs_here rem1 = some s91) ⟨_, _, rfl, Same.refl _, W, h_s91⟩ ?_ ?_⟩
    · rintro char_here1 rem1 σ H1 ⟨o1, B1, rfl, s1, W1, hm⟩
      refine gnm ?_
      refine gif (gt (go (gv rfl ?_)))
      refine gv rfl ?_
      refine r_ninC ⟨_, rfl, iteB (fun hb => ?_) (fun hb => ?_)⟩
      · have hm := bt hb hm
        refine gret (gv rfl ?_)
        cases Option.some.inj hm
        cases Option.some.inj hm1
        exact k _ _ _ W1.aft rfl
      · have hm := bf hb hm
        refine gnext ?_
        try dsimp only
        exact ⟨_, _, rfl, s1.trans (Same.refl _), W1, hm⟩
    · rintro σ H2 ⟨o1, B2, rfl, s2, W2, hm⟩
      cases Option.some.inj hm
      have hm := hm1
      try dsimp only
      refine gret (gs ?_)
      cases Option.some.inj hm
      exact k _ _ _ W2.aft rfl

def m_law_signs_told (text : Tx) : Option PyData :=
  tbind (m_check_signs text) (fun c1 y1 =>
    some (toD (T5.mk (subE c1 "InvalidSigns") (subE c1 "InvalidGroup") (subE c1 "UnknownSign") true y1))) fun r2 =>
  some (toD (α := Tx) r2)
def sp_law_signs_told (K : KF) : Sp := fun vs H Q _ => ∃ (text : Tx) (B : Hp) (r : PyData), vs = [.str (mkS text)] ∧ Same B H ∧ m_law_signs_told text = some r ∧ ∀ v H' B', Aft [] B H B' H' → enc K B' v r → Q v H'
theorem sc_law_signs_told : FnScope ["_law_text", "error"] ["_law_text"] (defScope (topS 29)) := ⟨rfl, rfl, rfl, by decide +kernel, rfl, by decide +kernel, by decide +kernel⟩
theorem b_law_signs_told (G : Gd P K mg) : Binds K G.d_law_signs_told ["_law_text"] [] := G.F_law_signs_told.bindsN fun _ _ _ _ _ _ us hl => match us, hl with | [_], _ => rfl
theorem ok_law_signs_told (G : Gd P K mg) : FnOk P w K mg base CX0 4 G.f_law_signs_told G.d_law_signs_told ["_law_text"] (sp_law_signs_told K) := by
  refine G.F_law_signs_told.ok sc_law_signs_told (fun vs H Q E h => ?_) (fun cdv A outer s H0 vs Q E hr h => ?_)
  · obtain ⟨_, _, _, rfl, _⟩ := h
    rfl
  · obtain ⟨text, B0, r, rfl, sB, hm, k⟩ := h
    refine ⟨_, PSs.nox (pss_one (ps_try_as (i := 1) rfl rfl sc_law_signs_told.nd rfl rfl ⟨rfl, by decide, .inl (G.E.gl "GrowsError" (by decide))⟩ takes0 (fun W pn xe tk _ => (pss_one (ps_ret (pe_callS (ok_check_signs G) (hr.mono (by decide)) rfl G.g_check_signs G.F_check_signs.kp (b_check_signs G) (fun σ => passAt tk σ) (pa_cons (pv 0) pa_nil))))) (fun a oe cls d pn hz hf => (pss_one (ps_ret (pe_tup (pa_cons (pe_callB (call_isX hz hf) rfl G.z_isinstance (by decide +kernel) (pa_cons (pv 1) (pa_cons (pe_glob (v := .ref (G.E.cl "InvalidSigns")) rfl (G.E.gl "InvalidSigns" (by decide)) rfl) pa_nil))) (pa_cons (pe_callB (call_isX hz hf) rfl G.z_isinstance (by decide +kernel) (pa_cons (pv 1) (pa_cons (pe_glob (v := .ref (G.E.cl "InvalidGroup")) rfl (G.E.gl "InvalidGroup" (by decide)) rfl) pa_nil))) (pa_cons (pe_callB (call_isX hz hf) rfl G.z_isinstance (by decide +kernel) (pa_cons (pv 1) (pa_cons (pe_glob (v := .ref (G.E.cl "UnknownSign")) rfl (G.E.gl "UnknownSign" (by decide)) rfl) pa_nil))) (pa_cons (pe_callB (call_isX hz hf) rfl G.z_isinstance (by decide +kernel) (pa_cons (pv 1) (pa_cons (pe_bltn (v := .ty "ValueError") rfl G.z_ValueError PyProof.Rows.Boot.«ValueError» rfl) pa_nil))) (pa_cons (pe_xfG hz hf (pv 1)) pa_nil))))))))))), ?_⟩
    have W := Wd.start0 sB
    unfold m_law_signs_told at hm
    dsimp only
    rcases tob hm with ⟨c1, y1, h_r2, hm⟩ | ⟨r2, h_r2, hm⟩
    · refine gret (gcallS (gcons (gv rfl ?_)))
      refine gnil ⟨text, B0, _, rfl, W.sub, h_r2, (fun _ _ _ _ z => nomatch z), fun _ _ d1 v2 H1 B1 z hc1 A1 hd1 e2 => ?_⟩
      cases z
      have W2 := W.call0 A1
      refine ⟨_, G.E.exm _ hc1 "GrowsError" (by decide), fun _ a1 _ => ?_, fun z => absurd z (by simp [subE])⟩
      refine gret (gtup (gcons (gcb (gcons (gv rfl ?_)))))
      refine gcons (gc ?_)
      refine gnil (r_isE G.E (c := "InvalidSigns") hc1 (by decide) (W2.sub _ _ hd1) (gcons (gcb (gcons (gv rfl ?_)))))
      refine gcons (gc ?_)
      refine gnil (r_isE G.E (c := "InvalidGroup") hc1 (by decide) (W2.sub _ _ hd1) (gcons (gcb (gcons (gv rfl ?_)))))
      refine gcons (gc ?_)
      refine gnil (r_isE G.E (c := "UnknownSign") hc1 (by decide) (W2.sub _ _ hd1) (gcons (gcb (gcons (gv rfl ?_)))))
      refine gcons (gc ?_)
      refine gnil (r_isVE G.E hc1 (W2.sub _ _ hd1) (gcons (gXf (gv rfl ?_))))
      refine r_xfv G.E hc1 (W2.sub _ _ hd1) (gnil (r_tup5 W2 (show enc K B1 _ (subE c1 "InvalidSigns") from rfl) (show enc K B1 _ (subE c1 "InvalidGroup") from rfl) (show enc K B1 _ (subE c1 "UnknownSign") from rfl) (show enc K B1 _ true from rfl) (show enc K B1 _ y1 from e2) (fun v3 B2 H2 W3 s1 e3 => ?_)))
      replace e2 := Enc.mono s1 e2
      replace hd1 := s1 _ _ hd1
      cases Option.some.inj hm
      exact k _ _ _ W3.aft (ToD.dp e3)
    · skip
      refine gret (gcallS (gcons (gv rfl ?_)))
      refine gnil ⟨text, B0, _, rfl, W.sub, h_r2, fun _ v4 H3 B3 z A2 e4 => ?_, (fun _ _ _ _ _ _ z => nomatch z)⟩
      cases z
      have W4 := W.call0 A2
      obtain rfl : v4 = .str (mkS r2) := e4
      cases Option.some.inj hm
      exact k _ _ _ W4.aft (ToD.dp rfl)

def m_law_group_told (text : Tx) : Option PyData :=
  tbind (m_check_group text) (fun c1 y1 =>
    some (toD (T5.mk (subE c1 "InvalidSigns") (subE c1 "InvalidGroup") (subE c1 "UnknownSign") true y1))) fun r2 =>
  some (toD (α := Tx) r2)
def sp_law_group_told (K : KF) : Sp := fun vs H Q _ => ∃ (text : Tx) (B : Hp) (r : PyData), vs = [.str (mkS text)] ∧ Same B H ∧ m_law_group_told text = some r ∧ ∀ v H' B', Aft [] B H B' H' → enc K B' v r → Q v H'
theorem sc_law_group_told : FnScope ["_law_text", "error"] ["_law_text"] (defScope (topS 30)) := ⟨rfl, rfl, rfl, by decide +kernel, rfl, by decide +kernel, by decide +kernel⟩
theorem b_law_group_told (G : Gd P K mg) : Binds K G.d_law_group_told ["_law_text"] [] := G.F_law_group_told.bindsN fun _ _ _ _ _ _ us hl => match us, hl with | [_], _ => rfl
theorem ok_law_group_told (G : Gd P K mg) : FnOk P w K mg base CX0 4 G.f_law_group_told G.d_law_group_told ["_law_text"] (sp_law_group_told K) := by
  refine G.F_law_group_told.ok sc_law_group_told (fun vs H Q E h => ?_) (fun cdv A outer s H0 vs Q E hr h => ?_)
  · obtain ⟨_, _, _, rfl, _⟩ := h
    rfl
  · obtain ⟨text, B0, r, rfl, sB, hm, k⟩ := h
    refine ⟨_, PSs.nox (pss_one (ps_try_as (i := 1) rfl rfl sc_law_group_told.nd rfl rfl ⟨rfl, by decide, .inl (G.E.gl "GrowsError" (by decide))⟩ takes0 (fun W pn xe tk _ => (pss_one (ps_ret (pe_callS (ok_check_group G) (hr.mono (by decide)) rfl G.g_check_group G.F_check_group.kp (b_check_group G) (fun σ => passAt tk σ) (pa_cons (pv 0) pa_nil))))) (fun a oe cls d pn hz hf => (pss_one (ps_ret (pe_tup (pa_cons (pe_callB (call_isX hz hf) rfl G.z_isinstance (by decide +kernel) (pa_cons (pv 1) (pa_cons (pe_glob (v := .ref (G.E.cl "InvalidSigns")) rfl (G.E.gl "InvalidSigns" (by decide)) rfl) pa_nil))) (pa_cons (pe_callB (call_isX hz hf) rfl G.z_isinstance (by decide +kernel) (pa_cons (pv 1) (pa_cons (pe_glob (v := .ref (G.E.cl "InvalidGroup")) rfl (G.E.gl "InvalidGroup" (by decide)) rfl) pa_nil))) (pa_cons (pe_callB (call_isX hz hf) rfl G.z_isinstance (by decide +kernel) (pa_cons (pv 1) (pa_cons (pe_glob (v := .ref (G.E.cl "UnknownSign")) rfl (G.E.gl "UnknownSign" (by decide)) rfl) pa_nil))) (pa_cons (pe_callB (call_isX hz hf) rfl G.z_isinstance (by decide +kernel) (pa_cons (pv 1) (pa_cons (pe_bltn (v := .ty "ValueError") rfl G.z_ValueError PyProof.Rows.Boot.«ValueError» rfl) pa_nil))) (pa_cons (pe_xfG hz hf (pv 1)) pa_nil))))))))))), ?_⟩
    have W := Wd.start0 sB
    unfold m_law_group_told at hm
    dsimp only
    rcases tob hm with ⟨c1, y1, h_r2, hm⟩ | ⟨r2, h_r2, hm⟩
    · refine gret (gcallS (gcons (gv rfl ?_)))
      refine gnil ⟨text, B0, _, rfl, W.sub, h_r2, (fun _ _ _ _ z => nomatch z), fun _ _ d1 v2 H1 B1 z hc1 A1 hd1 e2 => ?_⟩
      cases z
      have W2 := W.call0 A1
      refine ⟨_, G.E.exm _ hc1 "GrowsError" (by decide), fun _ a1 _ => ?_, fun z => absurd z (by simp [subE])⟩
      refine gret (gtup (gcons (gcb (gcons (gv rfl ?_)))))
      refine gcons (gc ?_)
      refine gnil (r_isE G.E (c := "InvalidSigns") hc1 (by decide) (W2.sub _ _ hd1) (gcons (gcb (gcons (gv rfl ?_)))))
      refine gcons (gc ?_)
      refine gnil (r_isE G.E (c := "InvalidGroup") hc1 (by decide) (W2.sub _ _ hd1) (gcons (gcb (gcons (gv rfl ?_)))))
      refine gcons (gc ?_)
      refine gnil (r_isE G.E (c := "UnknownSign") hc1 (by decide) (W2.sub _ _ hd1) (gcons (gcb (gcons (gv rfl ?_)))))
      refine gcons (gc ?_)
      refine gnil (r_isVE G.E hc1 (W2.sub _ _ hd1) (gcons (gXf (gv rfl ?_))))
      refine r_xfv G.E hc1 (W2.sub _ _ hd1) (gnil (r_tup5 W2 (show enc K B1 _ (subE c1 "InvalidSigns") from rfl) (show enc K B1 _ (subE c1 "InvalidGroup") from rfl) (show enc K B1 _ (subE c1 "UnknownSign") from rfl) (show enc K B1 _ true from rfl) (show enc K B1 _ y1 from e2) (fun v3 B2 H2 W3 s1 e3 => ?_)))
      replace e2 := Enc.mono s1 e2
      replace hd1 := s1 _ _ hd1
      cases Option.some.inj hm
      exact k _ _ _ W3.aft (ToD.dp e3)
    · skip
      refine gret (gcallS (gcons (gv rfl ?_)))
      refine gnil ⟨text, B0, _, rfl, W.sub, h_r2, fun _ v4 H3 B3 z A2 e4 => ?_, (fun _ _ _ _ _ _ z => nomatch z)⟩
      cases z
      have W4 := W.call0 A2
      obtain rfl : v4 = .str (mkS r2) := e4
      cases Option.some.inj hm
      exact k _ _ _ W4.aft (ToD.dp rfl)

def m_law_row_told (row : Tx) (signs_here : Tx) : Option PyData :=
  tbind (m_check_row row signs_here) (fun c1 y1 =>
    some (toD (T5.mk (subE c1 "InvalidSigns") (subE c1 "InvalidGroup") (subE c1 "UnknownSign") true y1))) fun r2 =>
  some (toD (α := Tx) r2)
def sp_law_row_told (K : KF) : Sp := fun vs H Q _ => ∃ (row : Tx) (signs_here : Tx) (B : Hp) (r : PyData), vs = [.str (mkS row), .str (mkS signs_here)] ∧ Same B H ∧ m_law_row_told row signs_here = some r ∧ ∀ v H' B', Aft [] B H B' H' → enc K B' v r → Q v H'
theorem sc_law_row_told : FnScope ["_law_row", "_law_signs_here", "error"] ["_law_row", "_law_signs_here"] (defScope (topS 31)) := ⟨rfl, rfl, rfl, by decide +kernel, rfl, by decide +kernel, by decide +kernel⟩
theorem b_law_row_told (G : Gd P K mg) : Binds K G.d_law_row_told ["_law_row", "_law_signs_here"] [] := G.F_law_row_told.bindsN fun _ _ _ _ _ _ us hl => match us, hl with | [_, _], _ => rfl
theorem ok_law_row_told (G : Gd P K mg) : FnOk P w K mg base CX0 4 G.f_law_row_told G.d_law_row_told ["_law_row", "_law_signs_here"] (sp_law_row_told K) := by
  refine G.F_law_row_told.ok sc_law_row_told (fun vs H Q E h => ?_) (fun cdv A outer s H0 vs Q E hr h => ?_)
  · obtain ⟨_, _, _, _, rfl, _⟩ := h
    rfl
  · obtain ⟨row, signs_here, B0, r, rfl, sB, hm, k⟩ := h
    refine ⟨_, PSs.nox (pss_one (ps_try_as (i := 2) rfl rfl sc_law_row_told.nd rfl rfl ⟨rfl, by decide, .inl (G.E.gl "GrowsError" (by decide))⟩ takes0 (fun W pn xe tk _ => (pss_one (ps_ret (pe_callS (ok_check_row G) (hr.mono (by decide)) rfl G.g_check_row G.F_check_row.kp (b_check_row G) (fun σ => passAt tk σ) (pa_cons (pv 0) (pa_cons (pv 1) pa_nil)))))) (fun a oe cls d pn hz hf => (pss_one (ps_ret (pe_tup (pa_cons (pe_callB (call_isX hz hf) rfl G.z_isinstance (by decide +kernel) (pa_cons (pv 2) (pa_cons (pe_glob (v := .ref (G.E.cl "InvalidSigns")) rfl (G.E.gl "InvalidSigns" (by decide)) rfl) pa_nil))) (pa_cons (pe_callB (call_isX hz hf) rfl G.z_isinstance (by decide +kernel) (pa_cons (pv 2) (pa_cons (pe_glob (v := .ref (G.E.cl "InvalidGroup")) rfl (G.E.gl "InvalidGroup" (by decide)) rfl) pa_nil))) (pa_cons (pe_callB (call_isX hz hf) rfl G.z_isinstance (by decide +kernel) (pa_cons (pv 2) (pa_cons (pe_glob (v := .ref (G.E.cl "UnknownSign")) rfl (G.E.gl "UnknownSign" (by decide)) rfl) pa_nil))) (pa_cons (pe_callB (call_isX hz hf) rfl G.z_isinstance (by decide +kernel) (pa_cons (pv 2) (pa_cons (pe_bltn (v := .ty "ValueError") rfl G.z_ValueError PyProof.Rows.Boot.«ValueError» rfl) pa_nil))) (pa_cons (pe_xfG hz hf (pv 2)) pa_nil))))))))))), ?_⟩
    have W := Wd.start0 sB
    unfold m_law_row_told at hm
    dsimp only
    rcases tob hm with ⟨c1, y1, h_r2, hm⟩ | ⟨r2, h_r2, hm⟩
    · refine gret (gcallS (gcons (gv rfl ?_)))
      refine gcons (gv rfl ?_)
      refine gnil ⟨row, signs_here, B0, _, rfl, W.sub, h_r2, (fun _ _ _ _ z => nomatch z), fun _ _ d1 v2 H1 B1 z hc1 A1 hd1 e2 => ?_⟩
      cases z
      have W2 := W.call0 A1
      refine ⟨_, G.E.exm _ hc1 "GrowsError" (by decide), fun _ a1 _ => ?_, fun z => absurd z (by simp [subE])⟩
      refine gret (gtup (gcons (gcb (gcons (gv rfl ?_)))))
      refine gcons (gc ?_)
      refine gnil (r_isE G.E (c := "InvalidSigns") hc1 (by decide) (W2.sub _ _ hd1) (gcons (gcb (gcons (gv rfl ?_)))))
      refine gcons (gc ?_)
      refine gnil (r_isE G.E (c := "InvalidGroup") hc1 (by decide) (W2.sub _ _ hd1) (gcons (gcb (gcons (gv rfl ?_)))))
      refine gcons (gc ?_)
      refine gnil (r_isE G.E (c := "UnknownSign") hc1 (by decide) (W2.sub _ _ hd1) (gcons (gcb (gcons (gv rfl ?_)))))
      refine gcons (gc ?_)
      refine gnil (r_isVE G.E hc1 (W2.sub _ _ hd1) (gcons (gXf (gv rfl ?_))))
      refine r_xfv G.E hc1 (W2.sub _ _ hd1) (gnil (r_tup5 W2 (show enc K B1 _ (subE c1 "InvalidSigns") from rfl) (show enc K B1 _ (subE c1 "InvalidGroup") from rfl) (show enc K B1 _ (subE c1 "UnknownSign") from rfl) (show enc K B1 _ true from rfl) (show enc K B1 _ y1 from e2) (fun v3 B2 H2 W3 s1 e3 => ?_)))
      replace e2 := Enc.mono s1 e2
      replace hd1 := s1 _ _ hd1
      cases Option.some.inj hm
      exact k _ _ _ W3.aft (ToD.dp e3)
    · skip
      refine gret (gcallS (gcons (gv rfl ?_)))
      refine gcons (gv rfl ?_)
      refine gnil ⟨row, signs_here, B0, _, rfl, W.sub, h_r2, fun _ v4 H3 B3 z A2 e4 => ?_, (fun _ _ _ _ _ _ z => nomatch z)⟩
      cases z
      have W4 := W.call0 A2
      obtain rfl : v4 = .str (mkS r2) := e4
      cases Option.some.inj hm
      exact k _ _ _ W4.aft (ToD.dp rfl)

def m_law_raised (value : Tx) : Option PyData :=
  (rprS value).bind fun u1 =>
  some (toD (T5.mk (subE "GrowsError" "InvalidSigns") (subE "GrowsError" "InvalidGroup") (subE "GrowsError" "UnknownSign") true (toD (α := Tx) value)))
def sp_law_raised (K : KF) : Sp := fun vs H Q _ => ∃ (value : Tx) (B : Hp) (r : PyData), vs = [.str (mkS value)] ∧ Same B H ∧ m_law_raised value = some r ∧ ∀ v H' B', Aft [] B H B' H' → enc K B' v r → Q v H'
theorem sc_law_raised : FnScope ["_law_value", "error"] ["_law_value"] (defScope (topS 32)) := ⟨rfl, rfl, rfl, by decide +kernel, rfl, by decide +kernel, by decide +kernel⟩
theorem b_law_raised (G : Gd P K mg) : Binds K G.d_law_raised ["_law_value"] [] := G.F_law_raised.bindsN fun _ _ _ _ _ _ us hl => match us, hl with | [_], _ => rfl
theorem ok_law_raised (G : Gd P K mg) : FnOk P w K mg base CX0 4 G.f_law_raised G.d_law_raised ["_law_value"] (sp_law_raised K) := by
  refine G.F_law_raised.ok sc_law_raised (fun vs H Q E h => ?_) (fun cdv A outer s H0 vs Q E hr h => ?_)
  · obtain ⟨_, _, _, rfl, _⟩ := h
    rfl
  · obtain ⟨value, B0, r, rfl, sB, hm, k⟩ := h
    refine ⟨_, PSs.nox (pss_one (ps_try_as (i := 1) rfl rfl sc_law_raised.nd rfl rfl ⟨rfl, by decide, .inl (G.E.gl "GrowsError" (by decide))⟩ takes0 (fun W pn xe tk _ => (pss_one (ps_raise rfl tk (pmk_grows (G.E.gi "GrowsError" (by decide)) hr rfl (G.E.gl "GrowsError" (by decide)) (pv 0))))) (fun a oe cls d pn hz hf => (pss_one (ps_ret (pe_tup (pa_cons (pe_callB (call_isX hz hf) rfl G.z_isinstance (by decide +kernel) (pa_cons (pv 1) (pa_cons (pe_glob (v := .ref (G.E.cl "InvalidSigns")) rfl (G.E.gl "InvalidSigns" (by decide)) rfl) pa_nil))) (pa_cons (pe_callB (call_isX hz hf) rfl G.z_isinstance (by decide +kernel) (pa_cons (pv 1) (pa_cons (pe_glob (v := .ref (G.E.cl "InvalidGroup")) rfl (G.E.gl "InvalidGroup" (by decide)) rfl) pa_nil))) (pa_cons (pe_callB (call_isX hz hf) rfl G.z_isinstance (by decide +kernel) (pa_cons (pv 1) (pa_cons (pe_glob (v := .ref (G.E.cl "UnknownSign")) rfl (G.E.gl "UnknownSign" (by decide)) rfl) pa_nil))) (pa_cons (pe_callB (call_isX hz hf) rfl G.z_isinstance (by decide +kernel) (pa_cons (pv 1) (pa_cons (pe_bltn (v := .ty "ValueError") rfl G.z_ValueError PyProof.Rows.Boot.«ValueError» rfl) pa_nil))) (pa_cons (pe_xfG hz hf (pv 1)) pa_nil))))))))))), ?_⟩
    have W := Wd.start0 sB
    unfold m_law_raised at hm
    dsimp only
    obtain ⟨u1, h_u1, hm⟩ := ob hm
    refine graise (gv rfl ?_)
    refine r_raise W (rprS_ok h_u1) (fun d1 B1 H1 W1 s1 hd1 => ?_)
    have e1 : enc K B1 (.str (mkS value)) (toD (α := Tx) value) := (ToD.dp rfl)
    have hc1 : "GrowsError" ∈ errs := by decide
    refine ⟨_, G.E.exm _ hc1 "GrowsError" (by decide), fun _ a1 _ => ?_, fun z => absurd z (by simp [subE])⟩
    refine gret (gtup (gcons (gcb (gcons (gv rfl ?_)))))
    refine gcons (gc ?_)
    refine gnil (r_isE G.E (c := "InvalidSigns") hc1 (by decide) (W1.sub _ _ hd1) (gcons (gcb (gcons (gv rfl ?_)))))
    refine gcons (gc ?_)
    refine gnil (r_isE G.E (c := "InvalidGroup") hc1 (by decide) (W1.sub _ _ hd1) (gcons (gcb (gcons (gv rfl ?_)))))
    refine gcons (gc ?_)
    refine gnil (r_isE G.E (c := "UnknownSign") hc1 (by decide) (W1.sub _ _ hd1) (gcons (gcb (gcons (gv rfl ?_)))))
    refine gcons (gc ?_)
    refine gnil (r_isVE G.E hc1 (W1.sub _ _ hd1) (gcons (gXf (gv rfl ?_))))
    refine r_xfv G.E hc1 (W1.sub _ _ hd1) (gnil (r_tup5 W1 (show enc K B1 _ (subE "GrowsError" "InvalidSigns") from rfl) (show enc K B1 _ (subE "GrowsError" "InvalidGroup") from rfl) (show enc K B1 _ (subE "GrowsError" "UnknownSign") from rfl) (show enc K B1 _ true from rfl) (show enc K B1 _ (toD (α := Tx) value) from e1) (fun v1 B2 H2 W2 s2 e2 => ?_)))
    replace e1 := Enc.mono s2 e1
    replace hd1 := s2 _ _ hd1
    cases Option.some.inj hm
    exact k _ _ _ W2.aft (ToD.dp e2)

def m_law_texts_kept_l1 : List Tx → Option (Ct Unit Bool)
  | [] => some (.nx ())
  | text1 :: rem1 =>
    ((m_law_is_alphabet text1).bind fun r1 =>
    bif r1 then (some (toD (α := Tx) text1))
    else (some (toD (T5.mk true false false true text1)))).bind fun due1 =>
    (m_law_signs_told text1).bind fun r2 =>
    (m_law_same r2 due1).bind fun r3 =>
    bif !r3 then (some (.rt false))
    else (((m_law_is_group text1).bind fun r4 =>
    bif r4 then (some (toD (α := Tx) text1))
    else (some (toD (T5.mk false true false true text1)))).bind fun due2 =>
    (m_law_group_told text1).bind fun r5 =>
    (m_law_same r5 due2).bind fun r6 =>
    bif !r6 then (some (.rt false))
    else (m_law_texts_kept_l1 rem1))
def m_law_texts_kept (texts : (List Tx)) : Option Bool :=
  cbind (m_law_texts_kept_l1 texts) (fun r => some r) fun _ =>
  some true
def sp_law_texts_kept (K : KF) : Sp := fun vs H Q _ => ∃ (texts : (List Tx)) (v_texts : V) (B : Hp) (r : Bool), vs = [v_texts] ∧ Same B H ∧ enc K B v_texts texts ∧ m_law_texts_kept texts = some r ∧ ∀ v H' B', Aft [] B H B' H' → enc K B' v r → Q v H'
theorem sc_law_texts_kept : FnScope ["_law_texts", "_law_text", "_law_due"] ["_law_texts"] (defScope (topS 33)) := ⟨rfl, rfl, rfl, by decide +kernel, rfl, by decide +kernel, by decide +kernel⟩
theorem b_law_texts_kept (G : Gd P K mg) : Binds K G.d_law_texts_kept ["_law_texts"] [] := G.F_law_texts_kept.bindsN fun _ _ _ _ _ _ us hl => match us, hl with | [_], _ => rfl
theorem ok_law_texts_kept (G : Gd P K mg) : FnOk P w K mg base CX0 9 G.f_law_texts_kept G.d_law_texts_kept ["_law_texts"] (sp_law_texts_kept K) := by
  refine G.F_law_texts_kept.ok sc_law_texts_kept (fun vs H Q E h => ?_) (fun cdv A outer s H0 vs Q E hr h => ?_)
  · obtain ⟨_, _, _, _, rfl, _⟩ := h
    rfl
  · obtain ⟨texts, v_texts, B0, r, rfl, sB, e_texts, hm, k⟩ := h
    refine ⟨_, PSs.nox (pss_cons (ps_for PassesOwn.never rfl (pi_list (pv 0)) (pg_name (i := 1) sc_law_texts_kept.nd rfl (by first | exact .inl rfl | exact .inr rfl)) (pss_cons (ps_set (i := 2) sc_law_texts_kept.nd rfl (by first | exact .inl rfl | exact .inr rfl) (pe_tup (pa_cons pe_bl (pa_cons pe_bl (pa_cons pe_bl (pa_cons pe_bl (pa_cons (pv 1) pa_nil)))))))
    (pss_cons (ps_if (pt_val (pe_call (ok_law_is_alphabet G) (hr.mono (by decide)) rfl G.g_law_is_alphabet G.F_law_is_alphabet.kp (b_law_is_alphabet G) .nil pass0 (pa_cons (pv 1) pa_nil))) (pss_one (ps_set (i := 2) sc_law_texts_kept.nd rfl (by first | exact .inl rfl | exact .inr rfl) (pv 1))) pss_nil)
    (pss_cons (ps_if (pt_not (pt_val (pe_call (ok_law_same G) (hr.mono (by decide)) rfl G.g_law_same G.F_law_same.kp (b_law_same G) .nil pass0 (pa_cons (pe_call (ok_law_signs_told G) (hr.mono (by decide)) rfl G.g_law_signs_told G.F_law_signs_told.kp (b_law_signs_told G) .nil pass0 (pa_cons (pv 1) pa_nil)) (pa_cons (pv 2) pa_nil))))) (pss_one (ps_ret pe_bl)) pss_nil)
    (pss_cons (ps_set (i := 2) sc_law_texts_kept.nd rfl (by first | exact .inl rfl | exact .inr rfl) (pe_tup (pa_cons pe_bl (pa_cons pe_bl (pa_cons pe_bl (pa_cons pe_bl (pa_cons (pv 1) pa_nil)))))))
    (pss_cons (ps_if (pt_val (pe_call (ok_law_is_group G) (hr.mono (by decide)) rfl G.g_law_is_group G.F_law_is_group.kp (b_law_is_group G) .nil pass0 (pa_cons (pv 1) pa_nil))) (pss_one (ps_set (i := 2) sc_law_texts_kept.nd rfl (by first | exact .inl rfl | exact .inr rfl) (pv 1))) pss_nil)
    (pss_one (ps_if (pt_not (pt_val (pe_call (ok_law_same G) (hr.mono (by decide)) rfl G.g_law_same G.F_law_same.kp (b_law_same G) .nil pass0 (pa_cons (pe_call (ok_law_group_told G) (hr.mono (by decide)) rfl G.g_law_group_told G.F_law_group_told.kp (b_law_group_told G) .nil pass0 (pa_cons (pv 1) pa_nil)) (pa_cons (pv 2) pa_nil))))) (pss_one (ps_ret pe_bl)) pss_nil))))))))
    (pss_one (ps_ret pe_bl))), ?_⟩
    have W := Wd.start0 sB
    unfold m_law_texts_kept at hm
    obtain ⟨s91, h_s91, hm1⟩ := ob hm
    obtain ⟨a1, vs1, ea1, hb1, he1⟩ := id e_texts
    refine gseq (gforL (gv rfl ?_))
    refine ⟨_, ea1, ⟨_, SqL.of (W.sub _ _ hb1)⟩, loopL he1 (fun rem1 σ H => ∃ (o1 : Option V) (o2 : Option V) (B : Hp), σ = [some (v_texts), o1, o2] ∧ Same B0 B ∧ Wd H0 [] B0 B H [] ∧ m_law_texts_kept_l1 rem1 = some s91) ⟨_, _, _, rfl, Same.refl _, W, h_s91⟩ ?_ ?_ ?_⟩
    · rintro rem1 σ H ⟨o1, o2, B, rfl, sm, W, hm⟩
      exact W.sub _ _ (sm _ _ hb1)
    · rintro text1 rem1 v1 σ H1 ⟨o1, o2, B1, rfl, s1, W1, hm⟩ e1
      have e2 := Enc.mono s1 e_texts
      obtain rfl : v1 = .str (mkS text1) := e1
      refine gnm ?_
      refine gseq (gasg (gtup (gcons (gc ?_))))
      refine gcons (gc ?_)
      refine gcons (gc ?_)
      refine gcons (gc ?_)
      refine gcons (gv rfl ?_)
      refine gnil (r_tup5 W1 (show enc K B1 _ true from rfl) (show enc K B1 _ false from rfl) (show enc K B1 _ false from rfl) (show enc K B1 _ true from rfl) (show enc K B1 _ (text1 : Tx) from rfl) (fun v2 B2 H2 W2 s2 e3 => ?_))
      replace e2 := Enc.mono s2 e2
      have e4 : enc K B2 (v2) (toD (T5.mk true false false true text1)) := (ToD.dp e3)
      try dsimp only
      obtain ⟨s92, h_s92, hm2⟩ := ob hm
      refine sjoin (fun σ H => ∃ (due1 : PyData) (v3 : V) (B : Hp), σ = [some (v_texts), some (.str (mkS text1)), some (v3)] ∧ Same B2 B ∧ Wd H0 [] B0 B H [] ∧ enc K B v3 due1 ∧ due1 = s92) ?_ ?_
      · rintro σ H3 ⟨due1, v3, B3, rfl, s3, W3, e5, rfl⟩
        have hm := hm2
        have e8 := Enc.mono s3 e2
        obtain ⟨r2, h_r2, hm⟩ := ob hm
        refine gseq (gif (gN (gB (gcall (gcons (gcall (gcons (gv rfl ?_))))))))
        refine gnil ⟨text1, B3, _, rfl, W3.sub, h_r2, fun v5 H5 B5 A2 e9 => ?_⟩
        have W5 := W3.call0 A2
        replace e8 := Enc.mono A2.bb e8
        replace e5 := Enc.mono A2.bb e5
        obtain ⟨r3, h_r3, hm⟩ := ob hm
        refine gcons (gv rfl ?_)
        refine gnil ⟨r2, due1, v5, v3, B5, _, rfl, W5.sub, e9, e5, h_r3, fun v6 H6 B6 A3 e10 => ?_⟩
        have W6 := W5.call0 A3
        replace e8 := Enc.mono A3.bb e8
        replace e5 := Enc.mono A3.bb e5
        obtain rfl : v6 = .bl r3 := e10
        refine ⟨_, rfl, iteB (fun hb => ?_) (fun hb => ?_)⟩
        · have hm := bt hb hm
          refine gret (gc ?_)
          cases Option.some.inj hm
          cases Option.some.inj hm1
          exact k _ _ _ W6.aft rfl
        · have hm := bf hb hm
          refine gnext ?_
          try dsimp only
          try dsimp only
          refine gseq (gasg (gtup (gcons (gc ?_))))
          refine gcons (gc ?_)
          refine gcons (gc ?_)
          refine gcons (gc ?_)
          refine gcons (gv rfl ?_)
          refine gnil (r_tup5 W6 (show enc K B6 _ false from rfl) (show enc K B6 _ true from rfl) (show enc K B6 _ false from rfl) (show enc K B6 _ true from rfl) (show enc K B6 _ (text1 : Tx) from rfl) (fun v7 B7 H7 W7 s4 e11 => ?_))
          replace e8 := Enc.mono s4 e8
          replace e5 := Enc.mono s4 e5
          have e12 : enc K B7 (v7) (toD (T5.mk false true false true text1)) := (ToD.dp e11)
          try dsimp only
          obtain ⟨s93, h_s93, hm3⟩ := ob hm
          refine sjoin (fun σ H => ∃ (due2 : PyData) (v8 : V) (B : Hp), σ = [some (v_texts), some (.str (mkS text1)), some (v8)] ∧ Same B7 B ∧ Wd H0 [] B0 B H [] ∧ enc K B v8 due2 ∧ due2 = s93) ?_ ?_
          · rintro σ H8 ⟨due2, v8, B8, rfl, s5, W8, e13, rfl⟩
            have hm := hm3
            have e16 := Enc.mono s5 e8
            obtain ⟨r5, h_r5, hm⟩ := ob hm
            refine gif (gN (gB (gcall (gcons (gcall (gcons (gv rfl ?_)))))))
            refine gnil ⟨text1, B8, _, rfl, W8.sub, h_r5, fun v10 H10 B10 A5 e17 => ?_⟩
            have W10 := W8.call0 A5
            replace e16 := Enc.mono A5.bb e16
            replace e13 := Enc.mono A5.bb e13
            obtain ⟨r6, h_r6, hm⟩ := ob hm
            refine gcons (gv rfl ?_)
            refine gnil ⟨r5, due2, v10, v8, B10, _, rfl, W10.sub, e17, e13, h_r6, fun v11 H11 B11 A6 e18 => ?_⟩
            have W11 := W10.call0 A6
            replace e16 := Enc.mono A6.bb e16
            replace e13 := Enc.mono A6.bb e13
            obtain rfl : v11 = .bl r6 := e18
            refine ⟨_, rfl, iteB (fun hb => ?_) (fun hb => ?_)⟩
            · have hm := bt hb hm
              refine gret (gc ?_)
              cases Option.some.inj hm
              cases Option.some.inj hm1
              exact k _ _ _ W11.aft rfl
            · have hm := bf hb hm
              refine gnext ?_
              try dsimp only
              exact ⟨_, _, _, rfl, s1.trans (((((((((Same.refl _).trans s2).trans s3).trans A2.bb).trans A3.bb).trans s4).trans s5).trans A5.bb).trans A6.bb), W11, hm⟩
          · intro hj
            have hm := h_s93
            obtain ⟨r4, h_r4, hm⟩ := ob hm
            refine gif (gB (gcall (gcons (gv rfl ?_))))
            refine gnil ⟨text1, B7, _, rfl, W7.sub, h_r4, fun v9 H9 B9 A4 e14 => ?_⟩
            have W9 := W7.call0 A4
            replace e8 := Enc.mono A4.bb e8
            replace e12 := Enc.mono A4.bb e12
            obtain rfl : v9 = .bl r4 := e14
            refine ⟨_, rfl, iteB (fun hb => ?_) (fun hb => ?_)⟩
            · have hm := bt hb hm
              refine gasg (gv rfl ?_)
              have e15 : enc K B9 (.str (mkS text1)) (toD (α := Tx) text1) := (ToD.dp rfl)
              exact hj _ _ ⟨_, _, _, rfl, (Same.refl _).trans A4.bb, W9, e15, Option.some.inj hm⟩
            · have hm := bf hb hm
              refine gnext ?_
              try dsimp only
              exact hj _ _ ⟨_, _, _, rfl, (Same.refl _).trans A4.bb, W9, e12, Option.some.inj hm⟩
      · intro hj
        have hm := h_s92
        obtain ⟨r1, h_r1, hm⟩ := ob hm
        refine gif (gB (gcall (gcons (gv rfl ?_))))
        refine gnil ⟨text1, B2, _, rfl, W2.sub, h_r1, fun v4 H4 B4 A1 e6 => ?_⟩
        have W4 := W2.call0 A1
        replace e2 := Enc.mono A1.bb e2
        replace e4 := Enc.mono A1.bb e4
        obtain rfl : v4 = .bl r1 := e6
        refine ⟨_, rfl, iteB (fun hb => ?_) (fun hb => ?_)⟩
        · have hm := bt hb hm
          refine gasg (gv rfl ?_)
          have e7 : enc K B4 (.str (mkS text1)) (toD (α := Tx) text1) := (ToD.dp rfl)
          exact hj _ _ ⟨_, _, _, rfl, (Same.refl _).trans A1.bb, W4, e7, Option.some.inj hm⟩
        · have hm := bf hb hm
          refine gnext ?_
          try dsimp only
          exact hj _ _ ⟨_, _, _, rfl, (Same.refl _).trans A1.bb, W4, e4, Option.some.inj hm⟩
    · rintro σ H12 ⟨o1, o2, B12, rfl, s6, W12, hm⟩
      cases Option.some.inj hm
      have hm := hm1
      have e19 := Enc.mono s6 e_texts
      try dsimp only
      refine gret (gc ?_)
      cases Option.some.inj hm
      exact k _ _ _ W12.aft rfl

def m_law_rows_kept_l1 (signs_here : Tx) : List Tx → Option (Ct Unit Bool)
  | [] => some (.nx ())
  | row1 :: rem1 =>
    (m_law_strange row1 signs_here).bind fun r1 =>
    (bif !decide (r1 = tx "") then (some (toD (T5.mk false false true true r1)))
    else (some (toD (α := Tx) row1))).bind fun due1 =>
    (m_law_row_told row1 signs_here).bind fun r2 =>
    (m_law_same r2 due1).bind fun r3 =>
    bif !r3 then (some (.rt false))
    else (m_law_rows_kept_l1 signs_here rem1)
def m_law_rows_kept (rows_here : (List Tx)) (signs_here : Tx) : Option Bool :=
  cbind (m_law_rows_kept_l1 signs_here rows_here) (fun r => some r) fun _ =>
  some true
def sp_law_rows_kept (K : KF) : Sp := fun vs H Q _ => ∃ (rows_here : (List Tx)) (signs_here : Tx) (v_rows_here : V) (B : Hp) (r : Bool), vs = [v_rows_here, .str (mkS signs_here)] ∧ Same B H ∧ enc K B v_rows_here rows_here ∧ m_law_rows_kept rows_here signs_here = some r ∧ ∀ v H' B', Aft [] B H B' H' → enc K B' v r → Q v H'
theorem sc_law_rows_kept : FnScope ["_law_rows_here", "_law_signs_here", "_law_row", "_law_due", "_law_strange_here"] ["_law_rows_here", "_law_signs_here"] (defScope (topS 34)) := ⟨rfl, rfl, rfl, by decide +kernel, rfl, by decide +kernel, by decide +kernel⟩
theorem b_law_rows_kept (G : Gd P K mg) : Binds K G.d_law_rows_kept ["_law_rows_here", "_law_signs_here"] [] := G.F_law_rows_kept.bindsN fun _ _ _ _ _ _ us hl => match us, hl with | [_, _], _ => rfl
theorem ok_law_rows_kept (G : Gd P K mg) : FnOk P w K mg base CX0 9 G.f_law_rows_kept G.d_law_rows_kept ["_law_rows_here", "_law_signs_here"] (sp_law_rows_kept K) := by
  refine G.F_law_rows_kept.ok sc_law_rows_kept (fun vs H Q E h => ?_) (fun cdv A outer s H0 vs Q E hr h => ?_)
  · obtain ⟨_, _, _, _, _, rfl, _⟩ := h
    rfl
  · obtain ⟨rows_here, signs_here, v_rows_here, B0, r, rfl, sB, e_rows_here, hm, k⟩ := h
    refine ⟨_, PSs.nox (pss_cons (ps_for PassesOwn.never rfl (pi_list (pv 0)) (pg_name (i := 2) sc_law_rows_kept.nd rfl (by first | exact .inl rfl | exact .inr rfl)) (pss_cons (ps_set (i := 3) sc_law_rows_kept.nd rfl (by first | exact .inl rfl | exact .inr rfl) (pv 2))
    (pss_cons (ps_set (i := 4) sc_law_rows_kept.nd rfl (by first | exact .inl rfl | exact .inr rfl) (pe_call (ok_law_strange G) (hr.mono (by decide)) rfl G.g_law_strange G.F_law_strange.kp (b_law_strange G) .nil pass0 (pa_cons (pv 2) (pa_cons (pv 1) pa_nil))))
    (pss_cons (ps_if (pt_cmpR op_ne (pv 4) pe_str (nomark _)) (pss_one (ps_set (i := 3) sc_law_rows_kept.nd rfl (by first | exact .inl rfl | exact .inr rfl) (pe_tup (pa_cons pe_bl (pa_cons pe_bl (pa_cons pe_bl (pa_cons pe_bl (pa_cons (pv 4) pa_nil)))))))) pss_nil)
    (pss_one (ps_if (pt_not (pt_val (pe_call (ok_law_same G) (hr.mono (by decide)) rfl G.g_law_same G.F_law_same.kp (b_law_same G) .nil pass0 (pa_cons (pe_call (ok_law_row_told G) (hr.mono (by decide)) rfl G.g_law_row_told G.F_law_row_told.kp (b_law_row_told G) .nil pass0 (pa_cons (pv 2) (pa_cons (pv 1) pa_nil))) (pa_cons (pv 3) pa_nil))))) (pss_one (ps_ret pe_bl)) pss_nil))))))
    (pss_one (ps_ret pe_bl))), ?_⟩
    have W := Wd.start0 sB
    unfold m_law_rows_kept at hm
    obtain ⟨s91, h_s91, hm1⟩ := ob hm
    obtain ⟨a1, vs1, ea1, hb1, he1⟩ := id e_rows_here
    refine gseq (gforL (gv rfl ?_))
    refine ⟨_, ea1, ⟨_, SqL.of (W.sub _ _ hb1)⟩, loopL he1 (fun rem1 σ H => ∃ (o1 : Option V) (o2 : Option V) (o3 : Option V) (B : Hp), σ = [some (v_rows_here), some (.str (mkS signs_here)), o1, o2, o3] ∧ Same B0 B ∧ Wd H0 [] B0 B H [] ∧ m_law_rows_kept_l1 signs_here rem1 = some s91) ⟨_, _, _, _, rfl, Same.refl _, W, h_s91⟩ ?_ ?_ ?_⟩
    · rintro rem1 σ H ⟨o1, o2, o3, B, rfl, sm, W, hm⟩
      exact W.sub _ _ (sm _ _ hb1)
    · rintro row1 rem1 v1 σ H1 ⟨o1, o2, o3, B1, rfl, s1, W1, hm⟩ e1
      have e2 := Enc.mono s1 e_rows_here
      obtain rfl : v1 = .str (mkS row1) := e1
      refine gnm ?_
      refine gseq (gasg (gv rfl ?_))
      have e3 : enc K B1 (.str (mkS row1)) (toD (α := Tx) row1) := (ToD.dp rfl)
      try dsimp only
      obtain ⟨r1, h_r1, hm⟩ := ob hm
      refine gseq (gasg (gcall (gcons (gv rfl ?_))))
      refine gcons (gv rfl ?_)
      refine gnil ⟨row1, signs_here, B1, _, rfl, W1.sub, h_r1, fun v2 H2 B2 A1 e4 => ?_⟩
      have W2 := W1.call0 A1
      replace e2 := Enc.mono A1.bb e2
      replace e3 := Enc.mono A1.bb e3
      obtain rfl : v2 = .str (mkS r1) := e4
      try dsimp only
      obtain ⟨s92, h_s92, hm2⟩ := ob hm
      refine sjoin (fun σ H => ∃ (due1 : PyData) (v3 : V) (B : Hp), σ = [some (v_rows_here), some (.str (mkS signs_here)), some (.str (mkS row1)), some (v3), some (.str (mkS r1))] ∧ Same B2 B ∧ Wd H0 [] B0 B H [] ∧ enc K B v3 due1 ∧ due1 = s92) ?_ ?_
      · rintro σ H3 ⟨due1, v3, B3, rfl, s2, W3, e5, rfl⟩
        have hm := hm2
        have e8 := Enc.mono s2 e2
        obtain ⟨r2, h_r2, hm⟩ := ob hm
        refine gif (gN (gB (gcall (gcons (gcall (gcons (gv rfl ?_)))))))
        refine gcons (gv rfl ?_)
        refine gnil ⟨row1, signs_here, B3, _, rfl, W3.sub, h_r2, fun v5 H5 B5 A2 e9 => ?_⟩
        have W5 := W3.call0 A2
        replace e8 := Enc.mono A2.bb e8
        replace e5 := Enc.mono A2.bb e5
        obtain ⟨r3, h_r3, hm⟩ := ob hm
        refine gcons (gv rfl ?_)
        refine gnil ⟨r2, due1, v5, v3, B5, _, rfl, W5.sub, e9, e5, h_r3, fun v6 H6 B6 A3 e10 => ?_⟩
        have W6 := W5.call0 A3
        replace e8 := Enc.mono A3.bb e8
        replace e5 := Enc.mono A3.bb e5
        obtain rfl : v6 = .bl r3 := e10
        refine ⟨_, rfl, iteB (fun hb => ?_) (fun hb => ?_)⟩
        · have hm := bt hb hm
          refine gret (gc ?_)
          cases Option.some.inj hm
          cases Option.some.inj hm1
          exact k _ _ _ W6.aft rfl
        · have hm := bf hb hm
          refine gnext ?_
          try dsimp only
          exact ⟨_, _, _, _, rfl, s1.trans (((((Same.refl _).trans A1.bb).trans s2).trans A2.bb).trans A3.bb), W6, hm⟩
      · intro hj
        have hm := h_s92
        refine gif (gt (go (gv rfl ?_)))
        refine gs ?_
        refine r_neS ⟨_, rfl, iteB (fun hb => ?_) (fun hb => ?_)⟩
        · have hm := bt hb hm
          refine gasg (gtup (gcons (gc ?_)))
          refine gcons (gc ?_)
          refine gcons (gc ?_)
          refine gcons (gc ?_)
          refine gcons (gv rfl ?_)
          refine gnil (r_tup5 W2 (show enc K B2 _ false from rfl) (show enc K B2 _ false from rfl) (show enc K B2 _ true from rfl) (show enc K B2 _ true from rfl) (show enc K B2 _ (r1 : Tx) from rfl) (fun v4 B4 H4 W4 s3 e6 => ?_))
          replace e2 := Enc.mono s3 e2
          replace e3 := Enc.mono s3 e3
          have e7 : enc K B4 (v4) (toD (T5.mk false false true true r1)) := (ToD.dp e6)
          exact hj _ _ ⟨_, _, _, rfl, (Same.refl _).trans s3, W4, e7, Option.some.inj hm⟩
        · have hm := bf hb hm
          refine gnext ?_
          try dsimp only
          exact hj _ _ ⟨_, _, _, rfl, Same.refl _, W2, e3, Option.some.inj hm⟩
    · rintro σ H7 ⟨o1, o2, o3, B7, rfl, s4, W7, hm⟩
      cases Option.some.inj hm
      have hm := hm1
      have e11 := Enc.mono s4 e_rows_here
      try dsimp only
      refine gret (gc ?_)
      cases Option.some.inj hm
      exact k _ _ _ W7.aft rfl

def m_law_row_changed_l1 (row : Tx) (r1 : Tx) : List Int → Option (Ct Unit Bool)
  | [] => some (.nx ())
  | k11 :: rem1 =>
    (ixS r1 k11).bind fun c1 =>
    (lenS row).bind fun t4 =>
    (ixS row ((t4 - (1 : Int)) - k11)).bind fun c2 =>
    bif !decide ([c1] = [c2]) then (some (.rt false))
    else (m_law_row_changed_l1 row r1 rem1)
def m_law_row_changed (row : Tx) (old : Tx) (new_here : Tx) : Option Bool :=
  (m_turned row).bind fun r1 =>
  ((lenS r1).bind fun t1 =>
  (lenS row).bind fun t2 =>
  some (!decide (t1 = t2))).bind fun b1 =>
  bif b1 then (some false)
  else ((lenS row).bind fun t3 =>
  (rngI t3).bind fun n1 =>
  cbind (m_law_row_changed_l1 row r1 (rangeI 0 t3.toNat)) (fun r => some r) fun _ =>
  (m_renamed row old new_here).bind fun r2 =>
  (m_law_renamed row old new_here).bind fun r3 =>
  (m_law_same (toD (α := Tx) r2) (toD (α := Tx) r3)).bind fun r4 =>
  some r4)
def sp_law_row_changed (K : KF) : Sp := fun vs H Q _ => ∃ (row : Tx) (old : Tx) (new_here : Tx) (B : Hp) (r : Bool), vs = [.str (mkS row), .str (mkS old), .str (mkS new_here)] ∧ Same B H ∧ m_law_row_changed row old new_here = some r ∧ ∀ v H' B', Aft [] B H B' H' → enc K B' v r → Q v H'
theorem sc_law_row_changed : FnScope ["_law_row", "_law_old", "_law_new_here", "_law_back", "_law_k"] ["_law_row", "_law_old", "_law_new_here"] (defScope (topS 35)) := ⟨rfl, rfl, rfl, by decide +kernel, rfl, by decide +kernel, by decide +kernel⟩
theorem b_law_row_changed (G : Gd P K mg) : Binds K G.d_law_row_changed ["_law_row", "_law_old", "_law_new_here"] [] := G.F_law_row_changed.bindsN fun _ _ _ _ _ _ us hl => match us, hl with | [_, _, _], _ => rfl
theorem ok_law_row_changed (G : Gd P K mg) : FnOk P w K mg base CX0 9 G.f_law_row_changed G.d_law_row_changed ["_law_row", "_law_old", "_law_new_here"] (sp_law_row_changed K) := by
  refine G.F_law_row_changed.ok sc_law_row_changed (fun vs H Q E h => ?_) (fun cdv A outer s H0 vs Q E hr h => ?_)
  · obtain ⟨_, _, _, _, _, rfl, _⟩ := h
    rfl
  · obtain ⟨row, old, new_here, B0, r, rfl, sB, hm, k⟩ := h
    refine ⟨_, PSs.nox (pss_cons (ps_set (i := 3) sc_law_row_changed.nd rfl (by first | exact .inl rfl | exact .inr rfl) (pe_call (ok_turned G) (hr.mono (by decide)) rfl G.g_turned G.F_turned.kp (b_turned G) .nil pass0 (pa_cons (pv 0) pa_nil)))
    (pss_cons (ps_if (PW.pt (pw_or (pt_not (pt_val (pe_callB call_isiS rfl G.z_isinstance (by decide +kernel) (pa_cons (pv 3) (pa_cons (pe_bltn (v := .ty "str") rfl G.z_str (by decide +kernel) rfl) pa_nil))))) (pw_or1 (pt_cmpR op_ne (pe_callB call_lenS rfl G.z_len PySem.boot_len (pa_cons (pv 3) pa_nil)) (pe_callB call_lenS rfl G.z_len PySem.boot_len (pa_cons (pv 0) pa_nil)) (nomark _))))) (pss_one (ps_ret pe_bl)) pss_nil)
    (pss_cons (ps_for PassesOwn.never rfl (pi_range1 rfl G.z_range (pa_cons (pe_callB call_lenS rfl G.z_len PySem.boot_len (pa_cons (pv 0) pa_nil)) pa_nil)) (pg_name (i := 4) sc_law_row_changed.nd rfl (by first | exact .inl rfl | exact .inr rfl)) (pss_one (ps_if (pt_cmpR op_ne (pe_ix ix_str (pv 3) (pv 4) (fun _ _ => rfl)) (pe_ix ix_str (pv 0) (pe_op op_sub (pe_op op_sub (pe_callB call_lenS rfl G.z_len PySem.boot_len (pa_cons (pv 0) pa_nil)) pe_int) (pv 4)) (fun _ _ => rfl)) (nomark _)) (pss_one (ps_ret pe_bl)) pss_nil)))
    (pss_one (ps_ret (pe_call (ok_law_same G) (hr.mono (by decide)) rfl G.g_law_same G.F_law_same.kp (b_law_same G) .nil pass0 (pa_cons (pe_call (ok_renamed G) (hr.mono (by decide)) rfl G.g_renamed G.F_renamed.kp (b_renamed G) .nil pass0 (pa_cons (pv 0) (pa_cons (pv 1) (pa_cons (pv 2) pa_nil)))) (pa_cons (pe_call (ok_law_renamed G) (hr.mono (by decide)) rfl G.g_law_renamed G.F_law_renamed.kp (b_law_renamed G) .nil pass0 (pa_cons (pv 0) (pa_cons (pv 1) (pa_cons (pv 2) pa_nil)))) pa_nil)))))))), ?_⟩
    have W := Wd.start0 sB
    unfold m_law_row_changed at hm
    obtain ⟨r1, h_r1, hm⟩ := ob hm
    refine gseq (gasg (gcall (gcons (gv rfl ?_))))
    refine gnil ⟨row, B0, _, rfl, W.sub, h_r1, fun v1 H1 B1 A1 e1 => ?_⟩
    have W1 := W.call0 A1
    obtain rfl : v1 = .str (mkS r1) := e1
    try dsimp only
    obtain ⟨b1, h_b1, hm⟩ := ob hm
    refine gseq (gif (tbox (fun b H => ∃ B : Hp, b = b1 ∧ Same B1 B ∧ Wd H0 [] B0 B H []) ?_ ?_))
    · intro Q hQ
      have hm := h_b1
      refine gOr (gN (gB (gcb (gcons (gv rfl ?_)))))
      refine gcons (gc ?_)
      refine gnil (r_isiS ⟨_, rfl, ?_⟩)
      refine iteF ?_
      obtain ⟨t1, h_t1, hm⟩ := ob hm
      obtain ⟨t2, h_t2, hm⟩ := ob hm
      refine gt (go (gcb (gcons (gv rfl ?_))))
      refine gnil (r_lenS h_t1 (gcb (gcons (gv rfl ?_))))
      refine gnil (r_lenS h_t2 (r_neI ⟨_, rfl, ?_⟩))
      cases Option.some.inj hm
      exact hQ _ _ ⟨_, rfl, Same.refl _, W1⟩
    · rintro _ H2 ⟨B2, rfl, s1, W2⟩
      refine iteB (fun hb => ?_) (fun hb => ?_)
      · have hm := bt hb hm
        refine gret (gc ?_)
        cases Option.some.inj hm
        exact k _ _ _ W2.aft rfl
      · have hm := bf hb hm
        refine gnext ?_
        try dsimp only
        try dsimp only
        obtain ⟨t3, h_t3, hm⟩ := ob hm
        obtain ⟨n1, h_n1, hm⟩ := ob hm
        obtain ⟨s91, h_s91, hm1⟩ := ob hm
        refine gseq (gforR (gcons (gcb (gcons (gv rfl ?_)))))
        refine gnil (r_lenS h_t3 (gnil ⟨_, rfl, (rngI_lo h_n1), (rngI_hi h_n1), loopR (fun rem1 σ H => ∃ (o1 : Option V) (B : Hp), σ = [some (.str (mkS row)), some (.str (mkS old)), some (.str (mkS new_here)), some (.str (mkS r1)), o1] ∧ Same B2 B ∧ Wd H0 [] B0 B H [] ∧ m_law_row_changed_l1 row r1 rem1 = some s91) ⟨_, _, rfl, Same.refl _, W2, h_s91⟩ ?_ ?_⟩))
        · rintro k11 rem1 σ H3 ⟨o1, B3, rfl, s2, W3, hm⟩
          refine gnm ?_
          obtain ⟨c1, h_c1, hm⟩ := ob hm
          obtain ⟨t4, h_t4, hm⟩ := ob hm
          obtain ⟨c2, h_c2, hm⟩ := ob hm
          refine gif (gt (go (go (gv rfl ?_))))
          refine gv rfl ?_
          refine r_ixS h_c1 (go (gv rfl ?_))
          refine go (go (gcb (gcons (gv rfl ?_))))
          refine gnil (r_lenS h_t4 (gc ?_))
          refine r_i0 (gv rfl ?_)
          refine r_i0 (r_ixS h_c2 (r_neS ⟨_, rfl, iteB (fun hb => ?_) (fun hb => ?_)⟩))
          · have hm := bt hb hm
            refine gret (gc ?_)
            cases Option.some.inj hm
            cases Option.some.inj hm1
            exact k _ _ _ W3.aft rfl
          · have hm := bf hb hm
            refine gnext ?_
            try dsimp only
            exact ⟨_, _, rfl, s2.trans (Same.refl _), W3, hm⟩
        · rintro σ H4 ⟨o1, B4, rfl, s3, W4, hm⟩
          cases Option.some.inj hm
          have hm := hm1
          try dsimp only
          obtain ⟨r2, h_r2, hm⟩ := ob hm
          refine gret (gcall (gcons (gcall (gcons (gv rfl ?_)))))
          refine gcons (gv rfl ?_)
          refine gcons (gv rfl ?_)
          refine gnil ⟨row, old, new_here, B4, _, rfl, W4.sub, h_r2, fun v3 H5 B5 A2 e3 => ?_⟩
          have W5 := W4.call0 A2
          obtain rfl : v3 = .str (mkS r2) := e3
          obtain ⟨r3, h_r3, hm⟩ := ob hm
          refine gcons (gcall (gcons (gv rfl ?_)))
          refine gcons (gv rfl ?_)
          refine gcons (gv rfl ?_)
          refine gnil ⟨row, old, new_here, B5, _, rfl, W5.sub, h_r3, fun v4 H6 B6 A3 e4 => ?_⟩
          have W6 := W5.call0 A3
          obtain rfl : v4 = .str (mkS r3) := e4
          obtain ⟨r4, h_r4, hm⟩ := ob hm
          refine gnil ⟨(toD (α := Tx) r2), (toD (α := Tx) r3), .str (mkS r2), .str (mkS r3), B6, _, rfl, W6.sub, (ToD.dp rfl), (ToD.dp rfl), h_r4, fun v5 H7 B7 A4 e5 => ?_⟩
          have W7 := W6.call0 A4
          obtain rfl : v5 = .bl r4 := e5
          cases Option.some.inj hm
          exact k _ _ _ W7.aft rfl

def m_law_l1 (r11 : Tx) : List Int → Option (Ct Unit Bool)
  | [] => some (.nx ())
  | top1 :: rem1 =>
    (m_rows_up_to r11 top1).bind fun r13 =>
    (m_law_rows r11 top1).bind fun r14 =>
    (m_law_same (toD r13) (toD r14)).bind fun r15 =>
    bif !r15 then (some (.rt false))
    else (m_law_l1 r11 rem1)
def m_law_l2 (r11 : Tx) : List Nat → List Ch → Option (List Ch)
  | [], acc1 => some acc1
  | sign1 :: rem2, acc1 =>
    bif !decide (sign1 ∈ r11) then ((appL acc1 (Ch.mk sign1)).bind fun l3 =>
    m_law_l2 r11 rem2 l3)
    else (m_law_l2 r11 rem2 acc1)
def m_law (cs : List Int) : Option Bool :=
  (m_law_draw cs (LS.mk 0 0 0 0) (2 : Int)).bind fun (r1, st1) =>
  (atI ([tx "abcd", tx "abcdefghijklmnopqrstuvwxyz"] : List Tx) r1).bind fun x1 =>
  (m_law_draw cs st1 (5 : Int)).bind fun (r2, st2) =>
  (m_law_unlike cs st2 x1 r2).bind fun (r3, st3) =>
  (m_law_unlike cs st3 x1 r2).bind fun (r4, st4) =>
  (m_law_word cs st4 x1 (0 : Int) (12 : Int)).bind fun (r5, st5) =>
  ((m_law_draw cs st5 (8 : Int)).bind fun (r6, st7) =>
  bif decide (r6 = (1 : Int)) then ((m_law_draw cs st7 (16 : Int)).bind fun (r7, st8) =>
  (repS r5 ((1 : Int) + r7)).bind fun t1 =>
  some (t1, st8))
  else (some (r5, st7))).bind fun (row1, st6) =>
  ((m_law_row_changed row1 r3 r4).bind fun r8 =>
  bif !r8 then (some true) else ((catS (tx "abba") row1).bind fun t2 =>
  (m_law_row_changed t2 (tx "ab") (tx "ba")).bind fun r9 =>
  some (!r9))).bind fun b1 =>
  bif b1 then (some false)
  else ((catS row1 (tx "xyz")).bind fun t3 =>
  (m_law_row_changed t3 (tx "axyz") (tx "bzxa")).bind fun r10 =>
  bif !r10 then (some false)
  else ((m_law_signs cs st6 (4 : Int)).bind fun (r11, st9) =>
  (m_law_draw cs st9 (4 : Int)).bind fun (r12, st10) =>
  (((lenS r11).bind fun t4 =>
  bif decide (t4 < (3 : Int)) then (some (decide (r12 = (3 : Int)))) else (some false)).bind fun b2 =>
  bif b2 then (some (4 : Int))
  else (some r12)).bind fun length1 =>
  cbind (m_law_l1 r11 ([length1, (1 : Int), (0 : Int)] : List Int)) (fun r => some r) fun _ =>
  (m_law_word cs st10 r11 (0 : Int) (8 : Int)).bind fun (r16, st11) =>
  (m_law_l2 r11 (tx "abcdefghijklmnopqrstuvwxyz") []).bind fun acc1 =>
  (m_law_draw cs st11 (22 : Int)).bind fun (r17, st12) =>
  (atI acc1 r17).bind fun x2 =>
  (m_law_bent cs st12 r16).bind fun (r18, st13) =>
  (catS r11 [x2.c]).bind fun t5 =>
  (catS t5 r16).bind fun t6 =>
  (catS t6 (tx "Z")).bind fun t7 =>
  (catS r16 (tx "~")).bind fun t8 =>
  (catS t8 [x2.c]).bind fun t9 =>
  (catS r16 r11).bind fun t10 =>
  (catS t10 r16).bind fun t11 =>
  (catS (tx " ") r11).bind fun t12 =>
  (m_law_rows_kept ([r16, r18, t7, t9, t11, t12, tx "", r18] : List Tx) r11).bind fun r19 =>
  bif !r19 then (some false)
  else ((m_law_bent cs st13 r11).bind fun (r20, st14) =>
  (m_law_word cs st14 (tx "abcdefghijklmnopqrstuvwxyz") (1 : Int) (5 : Int)).bind fun (r21, st15) =>
  (m_law_bent cs st15 r21).bind fun (r22, st16) =>
  (catL ([tx "", tx "a", tx "z", tx "ba", tx "aa", tx "az", tx "abcd", tx "bcxyz", tx "abb", tx "Ab", tx "aB", tx "AB", tx "a c", tx " ", tx "a1", tx "-"] : List Tx) ([r11, r20, r22] : List Tx)).bind fun t13 =>
  ((m_law_texts_kept t13).bind fun r23 =>
  bif !r23 then (some true) else ((m_law_texts_kept t13.reverse).bind fun r24 =>
  some (!r24))).bind fun b3 =>
  bif b3 then (some false)
  else ((catS row1 (tx " ")).bind fun t14 =>
  (m_law_raised t14).bind fun r25 =>
  (catS row1 (tx " ")).bind fun t15 =>
  (m_law_same r25 (toD (T5.mk false false false true t15))).bind fun r26 =>
  some r26))))
def sp_law (K : KF) : Sp := fun vs H Q _ => ∃ (a : Addr) (cs : List Int) (r : Bool), vs = [.ref a] ∧ SqL K H a (cs.map V.int) ∧ m_law cs = some r ∧ ∀ H', Q (.bl r) H'
theorem sc_law : FnScope ["_law_script", "_law_state", "_law_letters", "_law_pool", "_law_count", "_law_old", "_law_new_here", "_law_row", "_law_signs_here", "_law_length", "_law_top", "_law_word_here", "_law_spare", "_law_bent_here", "_law_rows_here", "_law_texts", "_law_sign"] ["_law_script"] (defScope (topS 36)) := ⟨rfl, rfl, rfl, by decide +kernel, rfl, by decide +kernel, by decide +kernel⟩
theorem b_law (G : Gd P K mg) : Binds K G.d_law ["_law_script"] [] := G.F_law.bindsN fun _ _ _ _ _ _ us hl => match us, hl with | [_], _ => rfl
theorem ok_law (G : Gd P K mg) : FnOk P w K mg base CX0 10 G.f_law G.d_law ["_law_script"] (sp_law K) := by
  refine G.F_law.ok sc_law (fun vs H Q E h => ?_) (fun cdv A outer s H0 vs Q E hr h => ?_)
  · obtain ⟨_, _, _, rfl, _⟩ := h
    rfl
  · obtain ⟨va, cs, r, rfl, hS, hm, k⟩ := h
    refine ⟨_, PSs.nox (pss_cons (ps_set (i := 1) sc_law.nd rfl (by first | exact .inl rfl | exact .inr rfl) (pe_call (ok_law_new G) (hr.mono (by decide)) rfl G.g_law_new G.F_law_new.kp (b_law_new G) .nil pass0 (pa_cons (pv 0) pa_nil)))
    (pss_cons (ps_set (i := 2) sc_law.nd rfl (by first | exact .inl rfl | exact .inr rfl) pe_str)
    (pss_cons (ps_set (i := 3) sc_law.nd rfl (by first | exact .inl rfl | exact .inr rfl) (pe_ix ix_list (pe_lst (pa_cons pe_str (pa_cons (pv 2) pa_nil))) (pe_call (ok_law_draw G) (hr.mono (by decide)) rfl G.g_law_draw G.F_law_draw.kp (b_law_draw G) .nil pass0 (pa_cons (pv 1) (pa_cons pe_int pa_nil))) (fun _ _ => rfl)))
    (pss_cons (ps_set (i := 4) sc_law.nd rfl (by first | exact .inl rfl | exact .inr rfl) (pe_call (ok_law_draw G) (hr.mono (by decide)) rfl G.g_law_draw G.F_law_draw.kp (b_law_draw G) .nil pass0 (pa_cons (pv 1) (pa_cons pe_int pa_nil))))
    (pss_cons (ps_set (i := 5) sc_law.nd rfl (by first | exact .inl rfl | exact .inr rfl) (pe_call (ok_law_unlike G) (hr.mono (by decide)) rfl G.g_law_unlike G.F_law_unlike.kp (b_law_unlike G) .nil pass0 (pa_cons (pv 1) (pa_cons (pv 3) (pa_cons (pv 4) pa_nil)))))
    (pss_cons (ps_set (i := 6) sc_law.nd rfl (by first | exact .inl rfl | exact .inr rfl) (pe_call (ok_law_unlike G) (hr.mono (by decide)) rfl G.g_law_unlike G.F_law_unlike.kp (b_law_unlike G) .nil pass0 (pa_cons (pv 1) (pa_cons (pv 3) (pa_cons (pv 4) pa_nil)))))
    (pss_cons (ps_set (i := 7) sc_law.nd rfl (by first | exact .inl rfl | exact .inr rfl) (pe_call (ok_law_word G) (hr.mono (by decide)) rfl G.g_law_word G.F_law_word.kp (b_law_word G) .nil pass0 (pa_cons (pv 1) (pa_cons (pv 3) (pa_cons pe_int (pa_cons pe_int pa_nil))))))
    (pss_cons (ps_if (pt_cmpR op_eq (pe_call (ok_law_draw G) (hr.mono (by decide)) rfl G.g_law_draw G.F_law_draw.kp (b_law_draw G) .nil pass0 (pa_cons (pv 1) (pa_cons pe_int pa_nil))) pe_int (nomark _)) (pss_one (ps_set (i := 7) sc_law.nd rfl (by first | exact .inl rfl | exact .inr rfl) (pe_op op_repS (pv 7) (pe_op op_add pe_int (pe_call (ok_law_draw G) (hr.mono (by decide)) rfl G.g_law_draw G.F_law_draw.kp (b_law_draw G) .nil pass0 (pa_cons (pv 1) (pa_cons pe_int pa_nil))))))) pss_nil)
    (pss_cons (ps_if (PW.pt (pw_or (pt_not (pt_val (pe_call (ok_law_row_changed G) (hr.mono (by decide)) rfl G.g_law_row_changed G.F_law_row_changed.kp (b_law_row_changed G) .nil pass0 (pa_cons (pv 7) (pa_cons (pv 5) (pa_cons (pv 6) pa_nil)))))) (pw_or1 (pt_not (pt_val (pe_call (ok_law_row_changed G) (hr.mono (by decide)) rfl G.g_law_row_changed G.F_law_row_changed.kp (b_law_row_changed G) .nil pass0 (pa_cons (pe_op op_catS pe_str (pv 7)) (pa_cons pe_str (pa_cons pe_str pa_nil))))))))) (pss_one (ps_ret pe_bl)) pss_nil)
    (pss_cons (ps_if (pt_not (pt_val (pe_call (ok_law_row_changed G) (hr.mono (by decide)) rfl G.g_law_row_changed G.F_law_row_changed.kp (b_law_row_changed G) .nil pass0 (pa_cons (pe_op op_catS (pv 7) pe_str) (pa_cons pe_str (pa_cons pe_str pa_nil)))))) (pss_one (ps_ret pe_bl)) pss_nil)
    (pss_cons (ps_set (i := 8) sc_law.nd rfl (by first | exact .inl rfl | exact .inr rfl) (pe_call (ok_law_signs G) (hr.mono (by decide)) rfl G.g_law_signs G.F_law_signs.kp (b_law_signs G) .nil pass0 (pa_cons (pv 1) (pa_cons pe_int pa_nil))))
    (pss_cons (ps_set (i := 9) sc_law.nd rfl (by first | exact .inl rfl | exact .inr rfl) (pe_call (ok_law_draw G) (hr.mono (by decide)) rfl G.g_law_draw G.F_law_draw.kp (b_law_draw G) .nil pass0 (pa_cons (pv 1) (pa_cons pe_int pa_nil))))
    (pss_cons (ps_if (PW.pt (pw_and (pt_cmpR op_lt (pe_callB call_lenS rfl G.z_len PySem.boot_len (pa_cons (pv 8) pa_nil)) pe_int (nomark _)) (pw_and1 (pt_cmpR op_eq (pv 9) pe_int (nomark _))))) (pss_one (ps_set (i := 9) sc_law.nd rfl (by first | exact .inl rfl | exact .inr rfl) pe_int)) pss_nil)
    (pss_cons (ps_for PassesOwn.never rfl (pi_list (pe_lst (pa_cons (pv 9) (pa_cons pe_int (pa_cons pe_int pa_nil))))) (pg_name (i := 10) sc_law.nd rfl (by first | exact .inl rfl | exact .inr rfl)) (pss_one (ps_if (pt_not (pt_val (pe_call (ok_law_same G) (hr.mono (by decide)) rfl G.g_law_same G.F_law_same.kp (b_law_same G) .nil pass0 (pa_cons (pe_listG (pgen_call (gok_rows_up_to G) (hr.mono (by decide)) rfl G.g_rows_up_to G.F_rows_up_to.kp (b_rows_up_to G) .nil (pa_cons (pv 8) (pa_cons (pv 10) pa_nil))) noPass noStop0 (hr.mono (by decide)) rfl G.z_list (by decide +kernel)) (pa_cons (pe_call (ok_law_rows G) (hr.mono (by decide)) rfl G.g_law_rows G.F_law_rows.kp (b_law_rows G) .nil pass0 (pa_cons (pv 8) (pa_cons (pv 10) pa_nil))) pa_nil))))) (pss_one (ps_ret pe_bl)) pss_nil)))
    (pss_cons (ps_set (i := 11) sc_law.nd rfl (by first | exact .inl rfl | exact .inr rfl) (pe_call (ok_law_word G) (hr.mono (by decide)) rfl G.g_law_word G.F_law_word.kp (b_law_word G) .nil pass0 (pa_cons (pv 1) (pa_cons (pv 8) (pa_cons pe_int (pa_cons pe_int pa_nil))))))
    (pss_cons (ps_set (i := 12) sc_law.nd rfl (by first | exact .inl rfl | exact .inr rfl) (pe_ix ix_list (pe_lc rfl sc_law.nd (pi_str (pv 2)) (own := [("_law_sign", 16)]) (blkOk_by (by kernel_rfl)) (fun _ _ _ _ _ => (pg_name (i := 16) sc_law.nd rfl (by first | exact .inl rfl | exact .inr rfl))) (fun _ _ _ _ _ => (pts_one (pt_cmpR op_notInS (pv 16) (pv 8) rfl))) (fun _ _ _ _ _ => (pv 16))) (pe_call (ok_law_draw G) (hr.mono (by decide)) rfl G.g_law_draw G.F_law_draw.kp (b_law_draw G) .nil pass0 (pa_cons (pv 1) (pa_cons pe_int pa_nil))) (fun _ _ => rfl)))
    (pss_cons (ps_set (i := 13) sc_law.nd rfl (by first | exact .inl rfl | exact .inr rfl) (pe_call (ok_law_bent G) (hr.mono (by decide)) rfl G.g_law_bent G.F_law_bent.kp (b_law_bent G) .nil pass0 (pa_cons (pv 1) (pa_cons (pv 11) pa_nil))))
    (pss_cons (ps_set (i := 14) sc_law.nd rfl (by first | exact .inl rfl | exact .inr rfl) (pe_lst (pa_cons (pv 11) (pa_cons (pv 13) (pa_cons (pe_op op_catS (pe_op op_catS (pe_op op_catS (pv 8) (pv 12)) (pv 11)) pe_str) (pa_cons (pe_op op_catS (pe_op op_catS (pv 11) pe_str) (pv 12)) (pa_cons (pe_op op_catS (pe_op op_catS (pv 11) (pv 8)) (pv 11)) (pa_cons (pe_op op_catS pe_str (pv 8)) (pa_cons pe_str (pa_cons (pv 13) pa_nil))))))))))
    (pss_cons (ps_if (pt_not (pt_val (pe_call (ok_law_rows_kept G) (hr.mono (by decide)) rfl G.g_law_rows_kept G.F_law_rows_kept.kp (b_law_rows_kept G) .nil pass0 (pa_cons (pv 14) (pa_cons (pv 8) pa_nil))))) (pss_one (ps_ret pe_bl)) pss_nil)
    (pss_cons (ps_set (i := 15) sc_law.nd rfl (by first | exact .inl rfl | exact .inr rfl) (pe_lst (pa_cons pe_str (pa_cons pe_str (pa_cons pe_str (pa_cons pe_str (pa_cons pe_str (pa_cons pe_str (pa_cons pe_str (pa_cons pe_str (pa_cons pe_str (pa_cons pe_str (pa_cons pe_str (pa_cons pe_str (pa_cons pe_str (pa_cons pe_str (pa_cons pe_str (pa_cons pe_str pa_nil))))))))))))))))))
    (pss_cons (ps_set (i := 15) sc_law.nd rfl (by first | exact .inl rfl | exact .inr rfl) (pe_op op_cat (pv 15) (pe_lst (pa_cons (pv 8) (pa_cons (pe_call (ok_law_bent G) (hr.mono (by decide)) rfl G.g_law_bent G.F_law_bent.kp (b_law_bent G) .nil pass0 (pa_cons (pv 1) (pa_cons (pv 8) pa_nil))) (pa_cons (pe_call (ok_law_bent G) (hr.mono (by decide)) rfl G.g_law_bent G.F_law_bent.kp (b_law_bent G) .nil pass0 (pa_cons (pv 1) (pa_cons (pe_call (ok_law_word G) (hr.mono (by decide)) rfl G.g_law_word G.F_law_word.kp (b_law_word G) .nil pass0 (pa_cons (pv 1) (pa_cons (pv 2) (pa_cons pe_int (pa_cons pe_int pa_nil))))) pa_nil))) pa_nil))))))
    (pss_cons (ps_if (PW.pt (pw_or (pt_not (pt_val (pe_call (ok_law_texts_kept G) (hr.mono (by decide)) rfl G.g_law_texts_kept G.F_law_texts_kept.kp (b_law_texts_kept G) .nil pass0 (pa_cons (pv 15) pa_nil)))) (pw_or1 (pt_not (pt_val (pe_call (ok_law_texts_kept G) (hr.mono (by decide)) rfl G.g_law_texts_kept G.F_law_texts_kept.kp (b_law_texts_kept G) .nil pass0 (pa_cons (pe_revL (pv 15)) pa_nil))))))) (pss_one (ps_ret pe_bl)) pss_nil)
    (pss_one (ps_ret (pe_call (ok_law_same G) (hr.mono (by decide)) rfl G.g_law_same G.F_law_same.kp (b_law_same G) .nil pass0 (pa_cons (pe_call (ok_law_raised G) (hr.mono (by decide)) rfl G.g_law_raised G.F_law_raised.kp (b_law_raised G) .nil pass0 (pa_cons (pe_op op_catS (pv 7) pe_str) pa_nil)) (pa_cons (pe_tup (pa_cons pe_bl (pa_cons pe_bl (pa_cons pe_bl (pa_cons pe_bl (pa_cons (pe_op op_catS (pv 7) pe_str) pa_nil)))))) pa_nil))))))))))))))))))))))))))), ?_⟩
    let B0 : Hp := fun _ => none
    have W := Wd.start0 (H := H0) (B := B0) (fun _ _ z => nomatch z)
    unfold m_law at hm
    refine gseq (gasg (gcall (gcons (gv rfl ?_))))
    refine gnil ⟨va, cs, B0, rfl, W.sub, hS, fun sa cl H1 B1 A1 hst nst fst hcl => ?_⟩
    have W1 := (W.call0 A1).adopt hst nst fst (by simp)
    try dsimp only
    refine gseq (gasg (gs ?_))
    try dsimp only
    refine gseq (gasg (go (glst (gcons (gs ?_)))))
    refine gcons (gv rfl ?_)
    refine gnil (r_lst (K := K) (α := Tx) W1 (by show 2 ≤ sizeLine; decide) (EncL.cons (α := Tx) rfl (EncL.cons (α := Tx) rfl EncL.nil)) (fun v1 B1 H1 W1 s1 e1 => ?_))
    replace hcl := s1 _ _ hcl
    obtain ⟨⟨r1, st1⟩, h_r1, hm⟩ := ob hm
    refine gcall (gcons (gv rfl ?_))
    refine gcons (gc ?_)
    refine gnil ⟨cl, cs, _, (LS.mk 0 0 0 0), (2 : Int), B1, _, _, rfl, W1.sub, W1.got 0 rfl, W1.nb 0 rfl, hcl, h_r1, fun v2 H2 B2 A1 hst e2 => ?_⟩
    have W2 := W1.call1 0 rfl A1 hst
    replace e1 := Enc.mono A1.bb e1
    replace hcl := A1.bb _ _ hcl
    obtain rfl : v2 = .int r1 := e2
    obtain ⟨x1, h_x1, hm⟩ := ob hm
    refine r_ixL (LAt.enc W2.sub e1) h_x1 (fun v3 e3 => ?_)
    obtain rfl : v3 = .str (mkS x1) := e3
    try dsimp only
    obtain ⟨⟨r2, st2⟩, h_r2, hm⟩ := ob hm
    refine gseq (gasg (gcall (gcons (gv rfl ?_))))
    refine gcons (gc ?_)
    refine gnil ⟨cl, cs, _, st1, (5 : Int), B2, _, _, rfl, W2.sub, W2.got 0 rfl, W2.nb 0 rfl, hcl, h_r2, fun v4 H3 B3 A2 hst e4 => ?_⟩
    have W3 := W2.call1 0 rfl A2 hst
    replace hcl := A2.bb _ _ hcl
    obtain rfl : v4 = .int r2 := e4
    try dsimp only
    obtain ⟨⟨r3, st3⟩, h_r3, hm⟩ := ob hm
    refine gseq (gasg (gcall (gcons (gv rfl ?_))))
    refine gcons (gv rfl ?_)
    refine gcons (gv rfl ?_)
    refine gnil ⟨cl, cs, _, st2, x1, r2, B3, _, _, rfl, W3.sub, W3.got 0 rfl, W3.nb 0 rfl, hcl, h_r3, fun v5 H4 B4 A3 hst e5 => ?_⟩
    have W4 := W3.call1 0 rfl A3 hst
    replace hcl := A3.bb _ _ hcl
    obtain rfl : v5 = .str (mkS r3) := e5
    try dsimp only
    obtain ⟨⟨r4, st4⟩, h_r4, hm⟩ := ob hm
    refine gseq (gasg (gcall (gcons (gv rfl ?_))))
    refine gcons (gv rfl ?_)
    refine gcons (gv rfl ?_)
    refine gnil ⟨cl, cs, _, st3, x1, r2, B4, _, _, rfl, W4.sub, W4.got 0 rfl, W4.nb 0 rfl, hcl, h_r4, fun v6 H5 B5 A4 hst e6 => ?_⟩
    have W5 := W4.call1 0 rfl A4 hst
    replace hcl := A4.bb _ _ hcl
    obtain rfl : v6 = .str (mkS r4) := e6
    try dsimp only
    obtain ⟨⟨r5, st5⟩, h_r5, hm⟩ := ob hm
    refine gseq (gasg (gcall (gcons (gv rfl ?_))))
    refine gcons (gv rfl ?_)
    refine gcons (gc ?_)
    refine gcons (gc ?_)
    refine gnil ⟨cl, cs, _, st4, x1, (0 : Int), (12 : Int), B5, _, _, rfl, W5.sub, W5.got 0 rfl, W5.nb 0 rfl, hcl, h_r5, fun v7 H6 B6 A5 hst e7 => ?_⟩
    have W6 := W5.call1 0 rfl A5 hst
    replace hcl := A5.bb _ _ hcl
    obtain rfl : v7 = .str (mkS r5) := e7
    try dsimp only
    obtain ⟨s91, h_s91, hm1⟩ := ob hm
    refine sjoin (fun σ H => ∃ (row1 : Tx) (st6 : LS) (B : Hp), σ = [some (.ref va), some (.ref sa), some (.str (mkS (tx "abcdefghijklmnopqrstuvwxyz"))), some (.str (mkS x1)), some (.int r2), some (.str (mkS r3)), some (.str (mkS r4)), some (.str (mkS row1)), none, none, none, none, none, none, none, none, none] ∧ Same B6 B ∧ Wd H0 [] B0 B H [(sa, lsO cl st6)] ∧ (row1, st6) = s91) ?_ ?_
    · rintro σ H7 ⟨row1, st6, B7, rfl, s2, W7, rfl⟩
      have hm := hm1
      replace hcl := s2 _ _ hcl
      obtain ⟨b1, h_b1, hm⟩ := ob hm
      refine gseq (gif (tbox (fun b H => ∃ B : Hp, b = b1 ∧ Same B7 B ∧ Wd H0 [] B0 B H [(sa, lsO cl st6)]) ?_ ?_))
      · intro Q hQ
        have hm := h_b1
        obtain ⟨r8, h_r8, hm⟩ := ob hm
        refine gOr (gN (gB (gcall (gcons (gv rfl ?_)))))
        refine gcons (gv rfl ?_)
        refine gcons (gv rfl ?_)
        refine gnil ⟨row1, r3, r4, B7, _, rfl, W7.sub, h_r8, fun v10 H11 B11 A8 e10 => ?_⟩
        have W11 := W7.call0 A8
        replace hcl := A8.bb _ _ hcl
        obtain rfl : v10 = .bl r8 := e10
        refine ⟨_, rfl, iteB (fun hb => ?_) (fun hb => ?_)⟩
        · have hm := bt hb hm
          cases Option.some.inj hm
          exact hQ _ _ ⟨_, rfl, (Same.refl _).trans A8.bb, W11⟩
        · have hm := bf hb hm
          obtain ⟨t2, h_t2, hm⟩ := ob hm
          obtain ⟨r9, h_r9, hm⟩ := ob hm
          refine gN (gB (gcall (gcons (go (gs ?_)))))
          refine gv rfl ?_
          refine r_catS h_t2 (gcons (gs ?_))
          refine gcons (gs ?_)
          refine gnil ⟨t2, (tx "ab"), (tx "ba"), B11, _, rfl, W11.sub, h_r9, fun v11 H12 B12 A9 e11 => ?_⟩
          have W12 := W11.call0 A9
          replace hcl := A9.bb _ _ hcl
          obtain rfl : v11 = .bl r9 := e11
          refine ⟨_, rfl, ?_⟩
          cases Option.some.inj hm
          exact hQ _ _ ⟨_, rfl, ((Same.refl _).trans A8.bb).trans A9.bb, W12⟩
      · rintro _ H10 ⟨B10, rfl, s3, W10⟩
        replace hcl := s3 _ _ hcl
        refine iteB (fun hb => ?_) (fun hb => ?_)
        · have hm := bt hb hm
          refine gret (gc ?_)
          cases Option.some.inj hm
          exact k _
        · have hm := bf hb hm
          refine gnext ?_
          try dsimp only
          try dsimp only
          obtain ⟨t3, h_t3, hm⟩ := ob hm
          obtain ⟨r10, h_r10, hm⟩ := ob hm
          refine gseq (gif (gN (gB (gcall (gcons (go (gv rfl ?_)))))))
          refine gs ?_
          refine r_catS h_t3 (gcons (gs ?_))
          refine gcons (gs ?_)
          refine gnil ⟨t3, (tx "axyz"), (tx "bzxa"), B10, _, rfl, W10.sub, h_r10, fun v13 H13 B13 A10 e13 => ?_⟩
          have W13 := W10.call0 A10
          replace hcl := A10.bb _ _ hcl
          obtain rfl : v13 = .bl r10 := e13
          refine ⟨_, rfl, iteB (fun hb => ?_) (fun hb => ?_)⟩
          · have hm := bt hb hm
            refine gret (gc ?_)
            cases Option.some.inj hm
            exact k _
          · have hm := bf hb hm
            refine gnext ?_
            try dsimp only
            try dsimp only
            obtain ⟨⟨r11, st9⟩, h_r11, hm⟩ := ob hm
            refine gseq (gasg (gcall (gcons (gv rfl ?_))))
            refine gcons (gc ?_)
            refine gnil ⟨cl, cs, _, st6, (4 : Int), B13, _, _, rfl, W13.sub, W13.got 0 rfl, W13.nb 0 rfl, hcl, h_r11, fun v14 H14 B14 A11 hst e14 => ?_⟩
            have W14 := W13.call1 0 rfl A11 hst
            replace hcl := A11.bb _ _ hcl
            obtain rfl : v14 = .str (mkS r11) := e14
            try dsimp only
            obtain ⟨⟨r12, st10⟩, h_r12, hm⟩ := ob hm
            refine gseq (gasg (gcall (gcons (gv rfl ?_))))
            refine gcons (gc ?_)
            refine gnil ⟨cl, cs, _, st9, (4 : Int), B14, _, _, rfl, W14.sub, W14.got 0 rfl, W14.nb 0 rfl, hcl, h_r12, fun v15 H15 B15 A12 hst e15 => ?_⟩
            have W15 := W14.call1 0 rfl A12 hst
            replace hcl := A12.bb _ _ hcl
            obtain rfl : v15 = .int r12 := e15
            try dsimp only
            obtain ⟨s92, h_s92, hm2⟩ := ob hm
            refine sjoin (fun σ H => ∃ (length1 : Int) (B : Hp), σ = [some (.ref va), some (.ref sa), some (.str (mkS (tx "abcdefghijklmnopqrstuvwxyz"))), some (.str (mkS x1)), some (.int r2), some (.str (mkS r3)), some (.str (mkS r4)), some (.str (mkS row1)), some (.str (mkS r11)), some (.int length1), none, none, none, none, none, none, none] ∧ Same B15 B ∧ Wd H0 [] B0 B H [(sa, lsO cl st10)] ∧ length1 = s92) ?_ ?_
            · rintro σ H16 ⟨length1, B16, rfl, s4, W16, rfl⟩
              have hm := hm2
              replace hcl := s4 _ _ hcl
              refine gseq (gforL (glst (gcons (gv rfl ?_))))
              refine gcons (gc ?_)
              refine gcons (gc ?_)
              refine gnil (r_lst (K := K) (α := Int) W16 (by show 3 ≤ sizeLine; decide) (EncL.cons (α := Int) rfl (EncL.cons (α := Int) rfl (EncL.cons (α := Int) rfl EncL.nil))) (fun v17 B18 H18 W18 s6 e17 => ?_))
              replace hcl := s6 _ _ hcl
              obtain ⟨s93, h_s93, hm3⟩ := ob hm
              obtain ⟨a1, vs1, ea1, hb1, he1⟩ := id e17
              refine ⟨_, ea1, ⟨_, SqL.of (W18.sub _ _ hb1)⟩, loopL he1 (fun rem1 σ H => ∃ (o1 : Option V) (B : Hp), σ = [some (.ref va), some (.ref sa), some (.str (mkS (tx "abcdefghijklmnopqrstuvwxyz"))), some (.str (mkS x1)), some (.int r2), some (.str (mkS r3)), some (.str (mkS r4)), some (.str (mkS row1)), some (.str (mkS r11)), some (.int length1), o1, none, none, none, none, none, none] ∧ Same B18 B ∧ Wd H0 [] B0 B H [(sa, lsO cl st10)] ∧ m_law_l1 r11 rem1 = some s93) ⟨_, _, rfl, Same.refl _, W18, h_s93⟩ ?_ ?_ ?_⟩
              · rintro rem1 σ H ⟨o1, B, rfl, sm, W, hm⟩
                exact W.sub _ _ (sm _ _ hb1)
              · rintro top1 rem1 v18 σ H19 ⟨o1, B19, rfl, s7, W19, hm⟩ e18
                replace hcl := s7 _ _ hcl
                obtain rfl : v18 = .int top1 := e18
                refine gnm ?_
                obtain ⟨r13, h_r13, hm⟩ := ob hm
                refine gif (gN (gB (gcall (gcons (glistG (gcons (gv rfl ?_)))))))
                refine gcons (gv rfl ?_)
                refine gnil ⟨r11, top1, B19, _, rfl, W19.sub, h_r13, fun vs2 H20 B20 A13 el1 D1 nD1 => ?_⟩
                have W20 := W19.call0 A13
                replace hcl := A13.bb _ _ hcl
                obtain ⟨B21, W21, s8, hd1⟩ := W20.new (o := .lst vs2) nD1
                replace hcl := s8 _ _ hcl
                have e19 : enc K B21 (.ref D1) r13 := ⟨_, _, rfl, hd1, EncL.mono s8 el1⟩
                obtain ⟨r14, h_r14, hm⟩ := ob hm
                refine gcons (gcall (gcons (gv rfl ?_)))
                refine gcons (gv rfl ?_)
                refine gnil ⟨r11, top1, B21, _, rfl, W21.sub, h_r14, fun v19 H21 B22 A14 e20 => ?_⟩
                have W22 := W21.call0 A14
                replace e19 := Enc.mono A14.bb e19
                replace hcl := A14.bb _ _ hcl
                obtain ⟨r15, h_r15, hm⟩ := ob hm
                refine gnil ⟨(toD r13), (toD r14), .ref D1, v19, B22, _, rfl, W22.sub, (ToD.dp e19), (ToD.dp e20), h_r15, fun v20 H22 B23 A15 e21 => ?_⟩
                have W23 := W22.call0 A15
                replace hcl := A15.bb _ _ hcl
                obtain rfl : v20 = .bl r15 := e21
                refine ⟨_, rfl, iteB (fun hb => ?_) (fun hb => ?_)⟩
                · have hm := bt hb hm
                  refine gret (gc ?_)
                  cases Option.some.inj hm
                  cases Option.some.inj hm3
                  exact k _
                · have hm := bf hb hm
                  refine gnext ?_
                  try dsimp only
                  exact ⟨_, _, rfl, s7.trans (((((Same.refl _).trans A13.bb).trans s8).trans A14.bb).trans A15.bb), W23, hm⟩
              · rintro σ H23 ⟨o1, B24, rfl, s9, W24, hm⟩
                cases Option.some.inj hm
                have hm := hm3
                replace hcl := s9 _ _ hcl
                try dsimp only
                obtain ⟨⟨r16, st11⟩, h_r16, hm⟩ := ob hm
                refine gseq (gasg (gcall (gcons (gv rfl ?_))))
                refine gcons (gv rfl ?_)
                refine gcons (gc ?_)
                refine gcons (gc ?_)
                refine gnil ⟨cl, cs, _, st10, r11, (0 : Int), (8 : Int), B24, _, _, rfl, W24.sub, W24.got 0 rfl, W24.nb 0 rfl, hcl, h_r16, fun v21 H24 B25 A16 hst e22 => ?_⟩
                have W25 := W24.call1 0 rfl A16 hst
                replace hcl := A16.bb _ _ hcl
                obtain rfl : v21 = .str (mkS r16) := e22
                try dsimp only
                obtain ⟨s94, h_s94, hm4⟩ := ob hm
                refine gseq (gasg (go (glcS (gv rfl ?_))))
                refine ⟨_, rfl, fun D2 nD2 => ?_⟩
                have W26 := W25.newO (o := .lst []) nD2
                refine lcS (z := (tx "abcdefghijklmnopqrstuvwxyz")) (fun rem2 H => ∃ (acc1 : List Ch) (accV1 : List V) (B : Hp), Same B25 B ∧ Wd H0 [] B0 B H [(D2, .lst accV1), (sa, lsO cl st11)] ∧ EncL (α := Ch) K B accV1 acc1 ∧ m_law_l2 r11 rem2 acc1 = some s94) ⟨[], [], _, Same.refl _, W26, EncL.nil, h_s94⟩ ?_ ?_
                · rintro sign1 rem2 H25 ⟨acc1, accV1, B26, s10, W27, el2, hm⟩
                  replace hcl := s10 _ _ hcl
                  refine gnm ⟨rfl, ?_⟩
                  refine gt (go (gv rfl ?_))
                  refine gv rfl ?_
                  refine r_ninC ⟨_, rfl, iteB (fun hb => ?_) (fun hb => ?_)⟩
                  · have hm := bt hb hm
                    obtain ⟨l3, h_l3, hm⟩ := ob hm
                    refine gv rfl ?_
                    refine r_nA (W27.got 0 rfl) el2 h_l3 ?_
                    have el3 : EncL (α := Ch) K B26 (accV1 ++ [.str (mkS [sign1])]) l3 := appL_enc h_l3 el2 (show enc (α := Ch) K B26 _ (Ch.mk sign1) from rfl)
                    have W28 := W27.put (o' := .lst (accV1 ++ [.str (mkS [sign1])])) 0 rfl
                    exact ⟨_, _, _, s10.trans (Same.refl _), W28, el3, hm⟩
                  · have hm := bf hb hm
                    exact ⟨_, _, _, s10.trans (Same.refl _), W27, el2, hm⟩
                · rintro H26 ⟨acc1, accV1, B27, s11, W29, el2, hm⟩
                  have hz := Option.some.inj hm
                  subst hz
                  have hm := hm4
                  replace hcl := s11 _ _ hcl
                  obtain ⟨B28, W30, s12, f1⟩ := W29.freeze (W29.mine0 0 rfl (by simp))
                  replace hcl := s12 _ _ hcl
                  have e23 : enc K B28 (.ref D2) acc1 := ⟨_, _, rfl, f1, EncL.mono s12 el2⟩
                  obtain ⟨⟨r17, st12⟩, h_r17, hm⟩ := ob hm
                  refine gcall (gcons (gv rfl ?_))
                  refine gcons (gc ?_)
                  refine gnil ⟨cl, cs, _, st11, (22 : Int), B28, _, _, rfl, W30.sub, W30.got 0 rfl, W30.nb 0 rfl, hcl, h_r17, fun v22 H27 B29 A17 hst e24 => ?_⟩
                  have W31 := W30.call1 0 rfl A17 hst
                  replace e23 := Enc.mono A17.bb e23
                  replace hcl := A17.bb _ _ hcl
                  obtain rfl : v22 = .int r17 := e24
                  obtain ⟨x2, h_x2, hm⟩ := ob hm
                  refine r_ixL (LAt.enc W31.sub e23) h_x2 (fun v23 e25 => ?_)
                  obtain rfl : v23 = .str (mkS [x2.c]) := e25
                  try dsimp only
                  obtain ⟨⟨r18, st13⟩, h_r18, hm⟩ := ob hm
                  refine gseq (gasg (gcall (gcons (gv rfl ?_))))
                  refine gcons (gv rfl ?_)
                  refine gnil ⟨cl, cs, _, st12, r16, B29, _, _, rfl, W31.sub, W31.got 0 rfl, W31.nb 0 rfl, hcl, h_r18, fun v24 H28 B30 A18 hst e26 => ?_⟩
                  have W32 := W31.call1 0 rfl A18 hst
                  replace hcl := A18.bb _ _ hcl
                  obtain rfl : v24 = .str (mkS r18) := e26
                  try dsimp only
                  obtain ⟨t5, h_t5, hm⟩ := ob hm
                  obtain ⟨t6, h_t6, hm⟩ := ob hm
                  obtain ⟨t7, h_t7, hm⟩ := ob hm
                  obtain ⟨t8, h_t8, hm⟩ := ob hm
                  obtain ⟨t9, h_t9, hm⟩ := ob hm
                  obtain ⟨t10, h_t10, hm⟩ := ob hm
                  obtain ⟨t11, h_t11, hm⟩ := ob hm
                  obtain ⟨t12, h_t12, hm⟩ := ob hm
                  refine gseq (gasg (glst (gcons (gv rfl ?_))))
                  refine gcons (gv rfl ?_)
                  refine gcons (go (go (go (gv rfl ?_))))
                  refine gv rfl ?_
                  refine r_catS h_t5 (gv rfl ?_)
                  refine r_catS h_t6 (gs ?_)
                  refine r_catS h_t7 (gcons (go (go (gv rfl ?_))))
                  refine gs ?_
                  refine r_catS h_t8 (gv rfl ?_)
                  refine r_catS h_t9 (gcons (go (go (gv rfl ?_))))
                  refine gv rfl ?_
                  refine r_catS h_t10 (gv rfl ?_)
                  refine r_catS h_t11 (gcons (go (gs ?_)))
                  refine gv rfl ?_
                  refine r_catS h_t12 (gcons (gs ?_))
                  refine gcons (gv rfl ?_)
                  refine gnil (r_lst (K := K) (α := Tx) W32 (by show 8 ≤ sizeLine; decide) (EncL.cons (α := Tx) rfl (EncL.cons (α := Tx) rfl (EncL.cons (α := Tx) rfl (EncL.cons (α := Tx) rfl (EncL.cons (α := Tx) rfl (EncL.cons (α := Tx) rfl (EncL.cons (α := Tx) rfl (EncL.cons (α := Tx) rfl EncL.nil)))))))) (fun v25 B31 H29 W33 s13 e27 => ?_))
                  replace hcl := s13 _ _ hcl
                  try dsimp only
                  obtain ⟨r19, h_r19, hm⟩ := ob hm
                  refine gseq (gif (gN (gB (gcall (gcons (gv rfl ?_))))))
                  refine gcons (gv rfl ?_)
                  refine gnil ⟨([r16, r18, t7, t9, t11, t12, tx "", r18] : List Tx), r11, v25, B31, _, rfl, W33.sub, e27, h_r19, fun v26 H30 B32 A19 e28 => ?_⟩
                  have W34 := W33.call0 A19
                  replace e27 := Enc.mono A19.bb e27
                  replace hcl := A19.bb _ _ hcl
                  obtain rfl : v26 = .bl r19 := e28
                  refine ⟨_, rfl, iteB (fun hb => ?_) (fun hb => ?_)⟩
                  · have hm := bt hb hm
                    refine gret (gc ?_)
                    cases Option.some.inj hm
                    exact k _
                  · have hm := bf hb hm
                    refine gnext ?_
                    try dsimp only
                    try dsimp only
                    refine gseq (gasg (glst (gcons (gs ?_))))
                    refine gcons (gs ?_)
                    refine gcons (gs ?_)
                    refine gcons (gs ?_)
                    refine gcons (gs ?_)
                    refine gcons (gs ?_)
                    refine gcons (gs ?_)
                    refine gcons (gs ?_)
                    refine gcons (gs ?_)
                    refine gcons (gs ?_)
                    refine gcons (gs ?_)
                    refine gcons (gs ?_)
                    refine gcons (gs ?_)
                    refine gcons (gs ?_)
                    refine gcons (gs ?_)
                    refine gcons (gs ?_)
                    refine gnil (r_lst (K := K) (α := Tx) W34 (by show 16 ≤ sizeLine; decide) (EncL.cons (α := Tx) rfl (EncL.cons (α := Tx) rfl (EncL.cons (α := Tx) rfl (EncL.cons (α := Tx) rfl (EncL.cons (α := Tx) rfl (EncL.cons (α := Tx) rfl (EncL.cons (α := Tx) rfl (EncL.cons (α := Tx) rfl (EncL.cons (α := Tx) rfl (EncL.cons (α := Tx) rfl (EncL.cons (α := Tx) rfl (EncL.cons (α := Tx) rfl (EncL.cons (α := Tx) rfl (EncL.cons (α := Tx) rfl (EncL.cons (α := Tx) rfl (EncL.cons (α := Tx) rfl EncL.nil)))))))))))))))) (fun v27 B33 H31 W35 s14 e29 => ?_))
                    replace e27 := Enc.mono s14 e27
                    replace hcl := s14 _ _ hcl
                    try dsimp only
                    obtain ⟨⟨r20, st14⟩, h_r20, hm⟩ := ob hm
                    refine gseq (gasg (go (gv rfl ?_)))
                    refine glst (gcons (gv rfl ?_))
                    refine gcons (gcall (gcons (gv rfl ?_)))
                    refine gcons (gv rfl ?_)
                    refine gnil ⟨cl, cs, _, st13, r11, B33, _, _, rfl, W35.sub, W35.got 0 rfl, W35.nb 0 rfl, hcl, h_r20, fun v28 H32 B34 A20 hst e30 => ?_⟩
                    have W36 := W35.call1 0 rfl A20 hst
                    replace e27 := Enc.mono A20.bb e27
                    replace e29 := Enc.mono A20.bb e29
                    replace hcl := A20.bb _ _ hcl
                    obtain rfl : v28 = .str (mkS r20) := e30
                    obtain ⟨⟨r21, st15⟩, h_r21, hm⟩ := ob hm
                    refine gcons (gcall (gcons (gv rfl ?_)))
                    refine gcons (gcall (gcons (gv rfl ?_)))
                    refine gcons (gv rfl ?_)
                    refine gcons (gc ?_)
                    refine gcons (gc ?_)
                    refine gnil ⟨cl, cs, _, st14, (tx "abcdefghijklmnopqrstuvwxyz"), (1 : Int), (5 : Int), B34, _, _, rfl, W36.sub, W36.got 0 rfl, W36.nb 0 rfl, hcl, h_r21, fun v29 H33 B35 A21 hst e31 => ?_⟩
                    have W37 := W36.call1 0 rfl A21 hst
                    replace e27 := Enc.mono A21.bb e27
                    replace e29 := Enc.mono A21.bb e29
                    replace hcl := A21.bb _ _ hcl
                    obtain rfl : v29 = .str (mkS r21) := e31
                    obtain ⟨⟨r22, st16⟩, h_r22, hm⟩ := ob hm
                    refine gnil ⟨cl, cs, _, st15, r21, B35, _, _, rfl, W37.sub, W37.got 0 rfl, W37.nb 0 rfl, hcl, h_r22, fun v30 H34 B36 A22 hst e32 => ?_⟩
                    have W38 := W37.call1 0 rfl A22 hst
                    replace e27 := Enc.mono A22.bb e27
                    replace e29 := Enc.mono A22.bb e29
                    replace hcl := A22.bb _ _ hcl
                    obtain rfl : v30 = .str (mkS r22) := e32
                    refine gnil (r_lst (K := K) (α := Tx) W38 (by show 3 ≤ sizeLine; decide) (EncL.cons (α := Tx) rfl (EncL.cons (α := Tx) rfl (EncL.cons (α := Tx) rfl EncL.nil))) (fun v31 B37 H35 W39 s15 e33 => ?_))
                    replace e27 := Enc.mono s15 e27
                    replace e29 := Enc.mono s15 e29
                    replace hcl := s15 _ _ hcl
                    obtain ⟨t13, h_t13, hm⟩ := ob hm
                    refine r_catL W39 (LAt.enc W39.sub e29) (LAt.enc W39.sub e33) h_t13 (fun v32 B38 H36 W40 s16 e34 => ?_)
                    replace e27 := Enc.mono s16 e27
                    replace e29 := Enc.mono s16 e29
                    replace hcl := s16 _ _ hcl
                    try dsimp only
                    obtain ⟨b3, h_b3, hm⟩ := ob hm
                    refine gseq (gif (tbox (fun b H => ∃ B : Hp, b = b3 ∧ Same B38 B ∧ Wd H0 [] B0 B H [(sa, lsO cl st16)]) ?_ ?_))
                    · intro Q hQ
                      have hm := h_b3
                      obtain ⟨r23, h_r23, hm⟩ := ob hm
                      refine gOr (gN (gB (gcall (gcons (gv rfl ?_)))))
                      refine gnil ⟨t13, v32, B38, _, rfl, W40.sub, e34, h_r23, fun v33 H38 B40 A23 e35 => ?_⟩
                      have W42 := W40.call0 A23
                      replace e27 := Enc.mono A23.bb e27
                      replace e34 := Enc.mono A23.bb e34
                      replace hcl := A23.bb _ _ hcl
                      obtain rfl : v33 = .bl r23 := e35
                      refine ⟨_, rfl, iteB (fun hb => ?_) (fun hb => ?_)⟩
                      · have hm := bt hb hm
                        cases Option.some.inj hm
                        exact hQ _ _ ⟨_, rfl, (Same.refl _).trans A23.bb, W42⟩
                      · have hm := bf hb hm
                        refine gN (gB (gcall (gcons (grvL (gv rfl ?_)))))
                        refine r_revL W42 (LAt.enc W42.sub e34) (fun v34 B41 H39 W43 s18 e36 => ?_)
                        replace e27 := Enc.mono s18 e27
                        replace e34 := Enc.mono s18 e34
                        replace hcl := s18 _ _ hcl
                        obtain ⟨r24, h_r24, hm⟩ := ob hm
                        refine gnil ⟨t13.reverse, v34, B41, _, rfl, W43.sub, e36, h_r24, fun v35 H40 B42 A24 e37 => ?_⟩
                        have W44 := W43.call0 A24
                        replace e27 := Enc.mono A24.bb e27
                        replace e34 := Enc.mono A24.bb e34
                        replace hcl := A24.bb _ _ hcl
                        obtain rfl : v35 = .bl r24 := e37
                        refine ⟨_, rfl, ?_⟩
                        cases Option.some.inj hm
                        exact hQ _ _ ⟨_, rfl, (((Same.refl _).trans A23.bb).trans s18).trans A24.bb, W44⟩
                    · rintro _ H37 ⟨B39, rfl, s17, W41⟩
                      replace e27 := Enc.mono s17 e27
                      replace e34 := Enc.mono s17 e34
                      replace hcl := s17 _ _ hcl
                      refine iteB (fun hb => ?_) (fun hb => ?_)
                      · have hm := bt hb hm
                        refine gret (gc ?_)
                        cases Option.some.inj hm
                        exact k _
                      · have hm := bf hb hm
                        refine gnext ?_
                        try dsimp only
                        try dsimp only
                        obtain ⟨t14, h_t14, hm⟩ := ob hm
                        obtain ⟨r25, h_r25, hm⟩ := ob hm
                        refine gret (gcall (gcons (gcall (gcons (go (gv rfl ?_))))))
                        refine gs ?_
                        refine r_catS h_t14 (gnil ⟨t14, B39, _, rfl, W41.sub, h_r25, fun v37 H41 B43 A25 e39 => ?_⟩)
                        have W45 := W41.call0 A25
                        replace e27 := Enc.mono A25.bb e27
                        replace e34 := Enc.mono A25.bb e34
                        replace hcl := A25.bb _ _ hcl
                        obtain ⟨t15, h_t15, hm⟩ := ob hm
                        refine gcons (gtup (gcons (gc ?_)))
                        refine gcons (gc ?_)
                        refine gcons (gc ?_)
                        refine gcons (gc ?_)
                        refine gcons (go (gv rfl ?_))
                        refine gs ?_
                        refine r_catS h_t15 (gnil (r_tup5 W45 (show enc K B43 _ false from rfl) (show enc K B43 _ false from rfl) (show enc K B43 _ false from rfl) (show enc K B43 _ true from rfl) (show enc K B43 _ (t15 : Tx) from rfl) (fun v38 B44 H42 W46 s19 e40 => ?_)))
                        replace e27 := Enc.mono s19 e27
                        replace e34 := Enc.mono s19 e34
                        replace e39 := Enc.mono s19 e39
                        replace hcl := s19 _ _ hcl
                        obtain ⟨r26, h_r26, hm⟩ := ob hm
                        refine gnil ⟨r25, (toD (T5.mk false false false true t15)), v37, v38, B44, _, rfl, W46.sub, e39, (ToD.dp e40), h_r26, fun v39 H43 B45 A26 e41 => ?_⟩
                        have W47 := W46.call0 A26
                        replace e27 := Enc.mono A26.bb e27
                        replace e34 := Enc.mono A26.bb e34
                        replace hcl := A26.bb _ _ hcl
                        obtain rfl : v39 = .bl r26 := e41
                        cases Option.some.inj hm
                        exact k _
            · intro hj
              have hm := h_s92
              obtain ⟨b2, h_b2, hm⟩ := ob hm
              refine gif (tbox (fun b H => ∃ B : Hp, b = b2 ∧ Same B15 B ∧ Wd H0 [] B0 B H [(sa, lsO cl st10)]) ?_ ?_)
              · intro Q hQ
                have hm := h_b2
                obtain ⟨t4, h_t4, hm⟩ := ob hm
                refine gAnd (gt (go (gcb (gcons (gv rfl ?_)))))
                refine gnil (r_lenS h_t4 (gc ?_))
                refine r_i0 ⟨_, rfl, iteB (fun hb => ?_) (fun hb => ?_)⟩
                · have hm := bt hb hm
                  refine gt (go (gv rfl ?_))
                  refine gc ?_
                  refine r_eqI ⟨_, rfl, ?_⟩
                  cases Option.some.inj hm
                  exact hQ _ _ ⟨_, rfl, Same.refl _, W15⟩
                · have hm := bf hb hm
                  cases Option.some.inj hm
                  exact hQ _ _ ⟨_, rfl, Same.refl _, W15⟩
              · rintro _ H17 ⟨B17, rfl, s5, W17⟩
                replace hcl := s5 _ _ hcl
                refine iteB (fun hb => ?_) (fun hb => ?_)
                · have hm := bt hb hm
                  refine gasg (gc ?_)
                  exact hj _ _ ⟨_, _, rfl, (Same.refl _).trans s5, W17, Option.some.inj hm⟩
                · have hm := bf hb hm
                  refine gnext ?_
                  try dsimp only
                  exact hj _ _ ⟨_, _, rfl, (Same.refl _).trans s5, W17, Option.some.inj hm⟩
    · intro hj
      have hm := h_s91
      obtain ⟨⟨r6, st7⟩, h_r6, hm⟩ := ob hm
      refine gif (gt (go (gcall (gcons (gv rfl ?_)))))
      refine gcons (gc ?_)
      refine gnil ⟨cl, cs, _, st5, (8 : Int), B6, _, _, rfl, W6.sub, W6.got 0 rfl, W6.nb 0 rfl, hcl, h_r6, fun v8 H8 B8 A6 hst e8 => ?_⟩
      have W8 := W6.call1 0 rfl A6 hst
      replace hcl := A6.bb _ _ hcl
      obtain rfl : v8 = .int r6 := e8
      refine gc ?_
      refine r_eqI ⟨_, rfl, iteB (fun hb => ?_) (fun hb => ?_)⟩
      · have hm := bt hb hm
        obtain ⟨⟨r7, st8⟩, h_r7, hm⟩ := ob hm
        refine gasg (go (gv rfl ?_))
        refine go (gc ?_)
        refine gcall (gcons (gv rfl ?_))
        refine gcons (gc ?_)
        refine gnil ⟨cl, cs, _, st7, (16 : Int), B8, _, _, rfl, W8.sub, W8.got 0 rfl, W8.nb 0 rfl, hcl, h_r7, fun v9 H9 B9 A7 hst e9 => ?_⟩
        have W9 := W8.call1 0 rfl A7 hst
        replace hcl := A7.bb _ _ hcl
        obtain rfl : v9 = .int r7 := e9
        obtain ⟨t1, h_t1, hm⟩ := ob hm
        refine r_i0 (r_repS h_t1 ?_)
        exact hj _ _ ⟨_, _, _, rfl, ((Same.refl _).trans A6.bb).trans A7.bb, W9, Option.some.inj hm⟩
      · have hm := bf hb hm
        refine gnext ?_
        try dsimp only
        exact hj _ _ ⟨_, _, _, rfl, (Same.refl _).trans A6.bb, W8, Option.some.inj hm⟩

end
end Sg
namespace Sg
open Enc (enc)
open ToD (toD)
open PySem PySem.Spec PyProof.Rows L2
/-! draws -/
abbrev Dr (many : Int) (x : Int × LS) : Prop := 0 ≤ x.1 ∧ x.1 < many ∧ 0 ≤ x.2.a
theorem ok_draw {cs : List Int} {st : LS} {many : Int} (ha : 0 ≤ st.a) (h0 : 0 < many) (h1 : many < 2 ^ 62) : Ok (m_law_draw cs st many) (Dr many) := by
  unfold m_law_draw
  have hp : powI (10 : Int) (18 : Int) = some (10 ^ 18) := by
    unfold powI
    rw [if_pos ⟨by decide, by decide, by decide⟩]
    rfl
  refine Ok.bind (P := fun s : LS => 0 ≤ s.a) ?_ ?_
  · refine Ok.bind (P := fun x : Bool × LS => 0 ≤ x.2.a ∧ (x.1 = true → x.2.a < cs.length)) ?_ ?_
    · refine Ok.bif (fun h => .mk ⟨ha, fun h2 => of_decide_eq_true h2⟩) (fun h => .mk ⟨ha, fun h2 => by cases h2⟩)
    · rintro ⟨b, s⟩ ⟨h2, h3⟩
      refine Ok.bif (fun hb => ?_) (fun hb => .mk h2)
      refine Ok.bind (ok_at h2 (h3 hb)) fun x1 _ => ?_
      refine Ok.bind (.of hp rfl) fun t1 e1 => ?_
      refine Ok.bind (ok_mul (.inr ⟨by decide, by decide⟩)) fun t2 e2 => ?_
      refine Ok.bind (ok_mul (.inl ⟨by decide, by decide⟩)) fun t3 e3 => ?_
      refine Ok.bind (ok_mod (by decide)) fun t4 e4 => ?_
      refine Ok.bind (P := fun s' : LS => s'.a = s.a) ?_ ?_
      · refine Ok.bif (fun _ => Ok.bind (.of hp rfl) fun t5 _ => .mk rfl) (fun _ => .mk rfl)
      · intro s' e
        refine .mk ?_
        show 0 ≤ s'.a + 1
        rw [e]
        have : 0 ≤ s.a := h2
        omega
  · intro s hs
    refine Ok.bif (fun _ => .mk ⟨Int.le_refl 0, h0, hs⟩) (fun _ => ?_)
    refine Ok.bif (fun _ => ?_) (fun _ => ?_)
    · refine Ok.bind (ok_mod h0) fun t6 e6 => ?_
      refine Ok.bind (ok_fdiv h0 (by omega)) fun t7 _ => ?_
      refine Ok.bind (P := fun s' : LS => s'.a = s.a) (Ok.bif (fun _ => .mk rfl) (fun _ => .mk rfl)) ?_
      intro s' e
      subst e6
      exact .mk ⟨Int.emod_nonneg _ (by omega), Int.emod_lt_of_pos _ h0, by show 0 ≤ s'.a; rw [e]; exact hs⟩
    · refine Ok.bind (ok_mul (.inr ⟨by decide, by decide⟩)) fun t8 _ => ?_
      refine Ok.bind (ok_mod (by decide)) fun t9 _ => ?_
      refine Ok.bind (ok_fdiv (by decide) (by decide)) fun t10 _ => ?_
      refine Ok.bind (ok_mod h0) fun t11 e => ?_
      subst e
      exact .mk ⟨Int.emod_nonneg _ (by omega), Int.emod_lt_of_pos _ h0, hs⟩
/-! words -/
theorem ok_word_l {cs : List Int} {sg : Tx} (hs : 0 < sg.length) (hl : sg.length ≤ 100) : ∀ (ks : List Int) (row : Tx) (st : LS), row.length + ks.length ≤ 1000 → (∀ c ∈ row, c ∈ sg) → 0 ≤ st.a →
    Ok (m_law_word_l1 cs sg ks row st) fun x => x.1.length = row.length + ks.length ∧ (∀ c ∈ x.1, c ∈ sg) ∧ 0 ≤ x.2.a
  | [], row, st, _, hr, ha => .mk ⟨rfl, hr, ha⟩
  | k :: ks, row, st, hn, hr, ha => by
    unfold m_law_word_l1
    refine Ok.bind (ok_len (by omega)) fun t1 e1 => ?_
    subst e1
    refine Ok.bind (ok_draw ha (by omega) (by omega)) ?_
    rintro ⟨r, st'⟩ ⟨h1, h2, h3⟩
    refine Ok.bind (ok_ix (by omega) h1 h2) fun c hc => ?_
    refine Ok.bind (ok_cat (by simp at hn ⊢; omega)) fun t2 e2 => ?_
    subst e2
    refine (ok_word_l hs hl ks (row ++ [c]) st' (by simp at hn ⊢; omega) ?_ h3).imp fun x hx => ⟨?_, hx.2⟩
    · intro d hd
      rcases List.mem_append.mp hd with hd | hd
      · exact hr d hd
      · rw [List.mem_singleton.mp hd]
        exact List.mem_of_getElem? hc
    · rw [hx.1]
      simp
      omega
theorem ok_word {cs : List Int} {sg : Tx} {st : LS} {least top : Int} (hs : 0 < sg.length) (hl : sg.length ≤ 100) (h0 : 0 ≤ least) (h1 : least ≤ top) (h2 : top ≤ 100) (ha : 0 ≤ st.a) :
    Ok (m_law_word cs st sg least top) fun x => x.1.length ≤ top.toNat ∧ (∀ c ∈ x.1, c ∈ sg) ∧ 0 ≤ x.2.a := by
  unfold m_law_word
  refine Ok.bind (ok_draw ha (by omega) (by omega)) ?_
  rintro ⟨r, st'⟩ ⟨h3, h4, h5⟩
  dsimp only at h3 h4 h5
  refine Ok.bind (ok_rng (by omega) (by omega)) fun _ _ => ?_
  refine Ok.bind (ok_word_l hs hl _ (tx "") st' ?_ ?_ h5) ?_
  · rw [rangeI_len]
    show 0 + _ ≤ _
    omega
  · intro c hc
    cases hc
  · rintro ⟨row, st2⟩ ⟨e1, e2, e3⟩
    rw [rangeI_len] at e1
    dsimp only at e1
    refine .mk ⟨?_, e2, e3⟩
    show row.length ≤ _
    rw [e1]
    show 0 + _ ≤ _
    omega
/-! unlike signs -/
theorem ok_unlike_l {cs : List Int} : ∀ (ks : List Int) (l : List Ch) (out : Tx) (st : LS), ks.length ≤ l.length → l.length ≤ 1000 → out.length + ks.length ≤ 1000 → 0 ≤ st.a →
    Ok (m_law_unlike_l1 cs ks l out st) fun x => x.2.1.length = out.length + ks.length ∧ 0 ≤ x.2.2.a
  | [], l, out, st, _, _, _, ha => .mk ⟨rfl, ha⟩
  | k :: ks, l, out, st, h1, h2, h3, ha => by
    unfold m_law_unlike_l1
    simp only [List.length_cons] at h1 h3
    refine Ok.bind (ok_draw ha (by omega) (by omega)) ?_
    rintro ⟨r, st'⟩ ⟨h4, h5, h6⟩
    dsimp only at h4 h5 h6
    have hr : r.toNat < l.length := by omega
    refine Ok.bind (P := fun x : Ch × List Ch => x.2.length + 1 = l.length) ?_ ?_
    · unfold popL
      rw [if_pos ⟨by omega, by omega⟩]
      have e : seqIndex? r l.length = some r.toNat := (ixN_seq (n := l.length) (i := r) (j := r.toNat) (by unfold ixN; rw [if_pos h4, if_pos h5])).1
      rw [e]
      show Ok ((l[r.toNat]?).map _) _
      rw [List.getElem?_eq_getElem hr]
      refine .mk ?_
      show (l.eraseIdx r.toNat).length + 1 = l.length
      rw [List.length_eraseIdx_of_lt hr]
      omega
    · rintro ⟨x, l2⟩ e
      dsimp only at e
      refine Ok.bind (ok_cat (by simp; omega)) fun t2 e2 => ?_
      subst e2
      refine (ok_unlike_l ks l2 (out ++ [x.c]) st' (by omega) (by omega) (by simp; omega) h6).imp fun z hz => ⟨?_, hz.2⟩
      rw [hz.1]
      simp
      omega
theorem ok_unlike {cs : List Int} {st : LS} {pool : Tx} {count : Int} (h0 : 0 ≤ count) (h1 : count ≤ pool.length) (h2 : pool.length ≤ 100) (ha : 0 ≤ st.a) :
    Ok (m_law_unlike cs st pool count) fun x => x.1.length = count.toNat ∧ 0 ≤ x.2.a := by
  unfold m_law_unlike
  refine Ok.bind (ok_lst (by omega)) fun t1 e1 => ?_
  subst e1
  refine Ok.bind (ok_rng (by omega) (by omega)) fun _ _ => ?_
  refine Ok.bind (ok_unlike_l _ _ (tx "") st ?_ ?_ ?_ ha) ?_
  · rw [rangeI_len, List.length_map]; omega
  · rw [List.length_map]; omega
  · rw [rangeI_len]
    show 0 + _ ≤ _
    omega
  · rintro ⟨l, out, st2⟩ ⟨e1, e2⟩
    rw [rangeI_len] at e1
    refine .mk ⟨?_, e2⟩
    rw [show out.length = _ from e1]
    show 0 + _ = _
    omega
/-! signs -/
abbrev abc : Tx := tx "abcdefghijklmnopqrstuvwxyz"
theorem abc_len : abc.length = 26 := by decide +kernel
theorem abc_lt : ∀ c ∈ abc, c < 128 := by decide +kernel
theorem ok_signs_l {cs : List Int} : ∀ (ks : List Int) (at1 : Int) (s : Tx) (st : LS), 0 ≤ at1 → at1 + 6 * ks.length < 26 → s.length + ks.length ≤ 100 → (∀ c ∈ s, c ∈ abc) → 0 ≤ st.a →
    Ok (m_law_signs_l1 cs abc ks at1 s st) fun x => x.2.1.length = s.length + ks.length ∧ (∀ c ∈ x.2.1, c ∈ abc) ∧ 0 ≤ x.2.2.a
  | [], at1, s, st, _, _, _, hs, ha => .mk ⟨rfl, hs, ha⟩
  | k :: ks, at1, s, st, h1, h2, h3, hs, ha => by
    unfold m_law_signs_l1
    simp only [List.length_cons] at h2 h3
    refine Ok.bind (ok_draw ha (by decide) (by decide)) ?_
    rintro ⟨r, st'⟩ ⟨h4, h5, h6⟩
    dsimp only at h4 h5 h6
    have hl := abc_len
    refine Ok.bind (ok_ix (by omega) (by omega) (by rw [hl]; push_cast at h2 ⊢; omega)) fun c hc => ?_
    refine Ok.bind (ok_cat (by simp; omega)) fun t e => ?_
    subst e
    refine (ok_signs_l ks _ (s ++ [c]) st' (by omega) (by push_cast at h2 ⊢; omega) (by simp; omega) ?_ h6).imp fun z hz => ⟨?_, hz.2⟩
    · intro d hd
      rcases List.mem_append.mp hd with hd | hd
      · exact hs d hd
      · rw [List.mem_singleton.mp hd]
        exact List.mem_of_getElem? hc
    · rw [hz.1]
      simp
      omega
theorem ok_signs {cs : List Int} {st : LS} (ha : 0 ≤ st.a) : Ok (m_law_signs cs st 4) fun x => 1 ≤ x.1.length ∧ x.1.length ≤ 4 ∧ (∀ c ∈ x.1, c ∈ abc) ∧ 0 ≤ x.2.a := by
  unfold m_law_signs
  refine Ok.bind (ok_draw ha (by decide) (by decide)) ?_
  rintro ⟨r, st1⟩ ⟨h1, h2, h3⟩
  dsimp only at h1 h2 h3
  refine Ok.bind (ok_draw h3 (by decide) (by decide)) ?_
  rintro ⟨r2, st2⟩ ⟨h4, h5, h6⟩
  dsimp only at h4 h5 h6
  have hl : (tx "abcdefghijklmnopqrstuvwxyz").length = 26 := abc_len
  refine Ok.bind (ok_ix (by omega) (by omega) (by omega)) fun c hc => ?_
  refine Ok.bind (ok_rng (by omega) (by omega)) fun _ _ => ?_
  refine Ok.bind (ok_signs_l _ r2 [c] st2 h4 ?_ ?_ ?_ h6) ?_
  · rw [rangeI_len]; omega
  · rw [rangeI_len]; simp; omega
  · intro d hd
    rw [List.mem_singleton.mp hd]
    exact List.mem_of_getElem? hc
  · rintro ⟨a, s, st3⟩ ⟨e1, e2, e3⟩
    rw [rangeI_len] at e1
    dsimp only at e1 e2 e3
    simp at e1
    refine .mk ⟨?_, ?_, e2, e3⟩
    · show 1 ≤ s.length
      omega
    · show s.length ≤ 4
      omega
/-! bent texts -/
abbrev oth : Tx := tx " !\"#$&'()*+,-./0123456789:;<=>?@ABCDEFGHIJKLMNOPQRSTUVWXYZ[\\]^_`{|}~"
theorem oth_len : oth.length = 68 := by decide +kernel
theorem oth_lt : ∀ c ∈ oth, c < 128 := by decide +kernel
abbrev Asc (t : Tx) : Prop := ∀ c ∈ t, c < 128
theorem Asc.app {a b : Tx} (h1 : Asc a) (h2 : Asc b) : Asc (a ++ b) := fun c hc => (List.mem_append.mp hc).elim (h1 c) (h2 c)
theorem ok_char {cs : List Int} {st : LS} (ha : 0 ≤ st.a) : Ok (m_law_char cs st) fun x => x.1.length = 1 ∧ Asc x.1 ∧ 0 ≤ x.2.a := by
  unfold m_law_char
  refine Ok.bind (ok_draw ha (by decide) (by decide)) ?_
  rintro ⟨r, st1⟩ ⟨h1, h2, h3⟩
  dsimp only at h1 h2 h3
  refine Ok.bif (fun _ => ?_) (fun _ => ?_)
  · refine Ok.bind (ok_draw h3 (by decide) (by decide)) ?_
    rintro ⟨r2, st2⟩ ⟨h4, h5, h6⟩
    have hl : (tx "abcdefghijklmnopqrstuvwxyz").length = 26 := abc_len
    dsimp only at h4 h5 h6
    refine Ok.bind (ok_ix (by omega) (by omega) (by omega)) fun c hc => ?_
    refine .mk ⟨rfl, fun d hd => ?_, h6⟩
    rw [List.mem_singleton.mp hd]
    exact abc_lt c (List.mem_of_getElem? hc)
  · have hl : (tx " !\"#$&'()*+,-./0123456789:;<=>?@ABCDEFGHIJKLMNOPQRSTUVWXYZ[\\]^_`{|}~").length = 68 := oth_len
    refine Ok.bind (ok_len (by omega)) fun t e => ?_
    subst e
    refine Ok.bind (ok_draw h3 (by omega) (by omega)) ?_
    rintro ⟨r2, st2⟩ ⟨h4, h5, h6⟩
    dsimp only at h4 h5 h6
    refine Ok.bind (ok_ix (by omega) (by omega) (by omega)) fun c hc => ?_
    refine .mk ⟨rfl, fun d hd => ?_, h6⟩
    rw [List.mem_singleton.mp hd]
    exact oth_lt c (List.mem_of_getElem? hc)
theorem Asc.sub {a b : Tx} (h : Asc a) (h2 : ∀ c ∈ b, c ∈ a) : Asc b := fun c hc => h c (h2 c hc)
theorem ok_catB {a b : Tx} {n m : Nat} (ha : a.length ≤ n ∧ Asc a) (hb : b.length ≤ m ∧ Asc b) (h : n + m ≤ 100000) : Ok (catS a b) fun z => z.length ≤ n + m ∧ Asc z := by
  refine (ok_cat (by omega)).imp fun z e => ?_
  subst e
  exact ⟨by rw [List.length_append]; omega, ha.2.app hb.2⟩
theorem ok_slB {a : Tx} {lo hi : Option Int} {n : Nat} (ha : a.length ≤ n ∧ Asc a) (h : n ≤ 100000) : Ok (slS a lo hi) fun z => z.length ≤ n ∧ Asc z := by
  refine (ok_sl (by omega)).imp fun z e => ⟨by omega, ha.2.sub e.2⟩
theorem ok_bent {cs : List Int} {st : LS} {t : Tx} {n : Nat} (ht : t.length ≤ n ∧ Asc t) (hn : n ≤ 1000) (ha : 0 ≤ st.a) : Ok (m_law_bent cs st t) fun x => (x.1.length ≤ 5 * n + 5 ∧ Asc x.1) ∧ 0 ≤ x.2.a := by
  unfold m_law_bent
  refine Ok.bind (ok_draw ha (by decide) (by decide)) ?_
  rintro ⟨r, st1⟩ ⟨h1, h2, h3⟩
  dsimp only at h1 h2 h3
  refine Ok.bind (ok_len (by omega)) fun t1 e1 => ?_
  subst e1
  refine Ok.bind (ok_draw h3 (by omega) (by omega)) ?_
  rintro ⟨r2, st2⟩ ⟨h4, h5, h6⟩
  dsimp only at h4 h5 h6
  refine Ok.bif (fun _ => ?_) (fun _ => Ok.bif (fun _ => ?_) (fun _ => Ok.bif (fun _ => ?_) (fun _ => Ok.bif (fun _ => ?_) (fun _ => ?_))))
  · refine Ok.bind (ok_slB ht (by omega)) fun t2 b2 => ?_
    refine Ok.bind (ok_char h6) ?_
    rintro ⟨r3, st3⟩ ⟨c1, c2, c3⟩
    dsimp only at c1 c2 c3
    refine Ok.bind (ok_catB (m := 1) b2 ⟨by omega, c2⟩ (by omega)) fun t3 b3 => ?_
    refine Ok.bind (ok_slB ht (by omega)) fun t4 b4 => ?_
    refine Ok.bind (ok_catB b3 b4 (by omega)) fun t5 b5 => ?_
    exact .mk ⟨⟨by show t5.length ≤ _; omega, b5.2⟩, c3⟩
  · refine Ok.bind (ok_slB ht (by omega)) fun t2 b2 => ?_
    refine Ok.bind (ok_slB ht (by omega)) fun t4 b4 => ?_
    refine Ok.bind (ok_catB b2 b4 (by omega)) fun t5 b5 => ?_
    exact .mk ⟨⟨by show t5.length ≤ _; omega, b5.2⟩, h6⟩
  · refine Ok.bind (ok_slB ht (by omega)) fun t2 b2 => ?_
    refine Ok.bind (ok_char h6) ?_
    rintro ⟨r3, st3⟩ ⟨c1, c2, c3⟩
    dsimp only at c1 c2 c3
    refine Ok.bind (ok_catB (m := 1) b2 ⟨by omega, c2⟩ (by omega)) fun t3 b3 => ?_
    refine Ok.bind (ok_slB ht (by omega)) fun t4 b4 => ?_
    refine Ok.bind (ok_catB b3 b4 (by omega)) fun t5 b5 => ?_
    exact .mk ⟨⟨by show t5.length ≤ _; omega, b5.2⟩, c3⟩
  · refine Ok.bind (ok_slB ht (by omega)) fun t2 b2 => ?_
    refine Ok.bind (ok_slB ht (by omega)) fun t3 b3 => ?_
    refine Ok.bind (ok_catB b2 b3 (by omega)) fun t4 b4 => ?_
    refine Ok.bind (ok_slB ht (by omega)) fun t5 b5 => ?_
    refine Ok.bind (ok_catB b4 b5 (by omega)) fun t6 b6 => ?_
    exact .mk ⟨⟨by show t6.length ≤ _; omega, b6.2⟩, h6⟩
  · refine Ok.bind (ok_slB ht (by omega)) fun t2 b2 => ?_
    refine Ok.bind (ok_slB ht (by omega)) fun t3 b3 => ?_
    refine Ok.bind (ok_catB b2 b3 (by omega)) fun t4 b4 => ?_
    refine Ok.bind (ok_slB ht (by omega)) fun t5 b5 => ?_
    refine Ok.bind (ok_catB b4 b5 (by omega)) fun t6 b6 => ?_
    refine Ok.bind (ok_slB ht (by omega)) fun t7 b7 => ?_
    refine Ok.bind (ok_catB b6 b7 (by omega)) fun t8 b8 => ?_
    exact .mk ⟨⟨by show t8.length ≤ _; omega, b8.2⟩, h6⟩
/-! rows -/
theorem rows_l3 (row : Tx) : ∀ (s : Tx) (acc : List Tx), m_law_rows_l3 row s acc = upC row s acc
  | [], acc => rfl
  | c :: s, acc => by
    unfold m_law_rows_l3 upC
    congr 1
    funext t
    congr 1
    funext l
    exact rows_l3 row s l
theorem rows_l2 (s : Tx) : ∀ (lv acc : List Tx), m_law_rows_l2 s lv acc = upL s lv acc
  | [], acc => rfl
  | r :: lv, acc => by
    unfold m_law_rows_l2 upL
    rw [rows_l3]
    congr 1
    funext l
    exact rows_l2 s lv l
theorem ok_upC {row : Tx} {m : Nat} (hr : row.length ≤ m) (hm : m ≤ 1000) : ∀ (s : Tx) (acc : List Tx), acc.length + s.length ≤ 100000 → (∀ x ∈ acc, x.length ≤ m + 1) → Ok (upC row s acc) fun l => l.length = acc.length + s.length ∧ ∀ x ∈ l, x.length ≤ m + 1
  | [], acc, _, h => .mk ⟨rfl, h⟩
  | c :: s, acc, h1, h => by
    unfold upC
    simp only [List.length_cons] at h1
    refine Ok.bind (ok_cat (by simp; omega)) fun t e => ?_
    subst e
    refine Ok.bind (ok_app (by omega)) fun l e => ?_
    subst e
    refine (ok_upC hr hm s (acc ++ [row ++ [c]]) (by simp; omega) ?_).imp fun z hz => ⟨?_, hz.2⟩
    · intro x hx
      rcases List.mem_append.mp hx with hx | hx
      · exact h x hx
      · rw [List.mem_singleton.mp hx]
        simp
        omega
    · rw [hz.1]
      simp
      omega
theorem ok_upL {s : Tx} {m : Nat} (hs : s.length ≤ 4) (hm : m ≤ 1000) : ∀ (lv acc : List Tx), acc.length + 4 * lv.length ≤ 100000 → (∀ x ∈ lv, x.length ≤ m) → (∀ x ∈ acc, x.length ≤ m + 1) → Ok (upL s lv acc) fun l => l.length ≤ acc.length + 4 * lv.length ∧ ∀ x ∈ l, x.length ≤ m + 1
  | [], acc, _, _, h => .mk ⟨by simp, h⟩
  | r :: lv, acc, h1, h2, h => by
    unfold upL
    simp only [List.length_cons] at h1
    refine Ok.bind (ok_upC (m := m) (h2 r List.mem_cons_self) hm s acc (by omega) h) fun l hl => ?_
    refine (ok_upL hs hm lv l (by omega) (fun x hx => h2 x (List.mem_cons_of_mem _ hx)) hl.2).imp fun z hz => ⟨?_, hz.2⟩
    have := hz.1
    simp only [List.length_cons]
    omega
theorem ok_upY : ∀ (lv out : List Tx), out.length + lv.length ≤ 100000 → Ok (upY lv out) fun l => l = out ++ lv
  | [], out, _ => .mk (by simp)
  | r :: lv, out, h => by
    unfold upY
    simp only [List.length_cons] at h
    refine Ok.bind (ok_app (by omega)) fun l e => ?_
    subst e
    refine (ok_upY lv (out ++ [r]) (by simp; omega)).imp fun z hz => ?_
    rw [hz]
    simp
/-- both walk the same levels -/
theorem ok_rows_l {s : Tx} (hs : s.length ≤ 4) : ∀ (ks ks' : List Int) (m n : Nat) (lv out : List Tx), ks.length = ks'.length → (∀ k ∈ ks, 0 < k) → m + ks.length ≤ 1000 → (∀ x ∈ lv, x.length ≤ m) → lv.length ≤ n → n * 4 ^ ks.length ≤ 10000 → out.length + (ks.length + 1) * (n * 4 ^ ks.length) ≤ 90000 →
    ∃ l lv2, upG s ks lv out = some l ∧ m_law_rows_l1 s ks' out lv = some (l, lv2) ∧ (∀ x ∈ lv2, x.length ≤ 1000) ∧ l.length ≤ 100000
  | [], [], m, n, lv, out, _, _, h3, h4, h5, h6, h7 => ⟨out, lv, rfl, rfl, fun x hx => by have := h4 x hx; simp at h3; omega, by omega⟩
  | k :: ks, k' :: ks', m, n, lv, out, h1, h2, h3, h4, h5, h6, h7 => by
    simp only [List.length_cons] at h1 h3 h6 h7
    have hp : 4 ^ (ks.length + 1) = 4 * 4 ^ ks.length := by rw [Nat.pow_succ, Nat.mul_comm]
    have h1p : 1 ≤ 4 ^ ks.length := Nat.one_le_pow _ _ (by decide)
    have hn : 4 * n ≤ n * 4 ^ (ks.length + 1) := by rw [hp, ← Nat.mul_assoc, Nat.mul_comm n 4]; exact Nat.le_mul_of_pos_right _ h1p
    obtain ⟨l2, e2, h8, h9⟩ := ok_upL (s := s) (m := m) hs (by omega) lv [] (by simp; omega) h4 (fun x hx => by cases hx)
    have h8' : l2.length ≤ 4 * n := by
      have : l2.length ≤ 0 + 4 * lv.length := h8
      omega
    have hm0 : 0 ≤ (ks.length + 1) * (n * 4 ^ (ks.length + 1)) := Nat.zero_le _
    have hsum : (ks.length + 1 + 1) * (n * 4 ^ (ks.length + 1)) = (ks.length + 1) * (n * 4 ^ (ks.length + 1)) + n * 4 ^ (ks.length + 1) := Nat.succ_mul _ _
    obtain ⟨o2, e3, e4⟩ := ok_upY l2 out (by omega)
    subst e4
    have e5 : n * 4 ^ (ks.length + 1) = 4 * n * 4 ^ ks.length := by rw [hp, ← Nat.mul_assoc, Nat.mul_comm n 4]
    obtain ⟨l, lv2, a1, a2, a3, a4⟩ := ok_rows_l hs ks ks' (m + 1) (4 * n) l2 (out ++ l2) (by omega) (fun x hx => h2 x (List.mem_cons_of_mem _ hx)) (by omega) h9 h8' (by rw [← e5]; exact h6) (by rw [← e5, List.length_append]; omega)
    refine ⟨l, lv2, ?_, ?_, a3, a4⟩
    · unfold upG
      rw [decide_eq_true (h2 k List.mem_cons_self)]
      show (upL s lv []).bind _ = _
      rw [e2]
      show (upY l2 out).bind _ = _
      rw [e3]
      exact a1
    · unfold m_law_rows_l1
      rw [rows_l2, e2]
      show (catL out l2).bind _ = _
      rw [(ok_catL (by omega)).eq]
      exact a2
theorem rows_same {s : Tx} {top : Int} (hs : s.length ≤ 4) (h0 : 0 ≤ top) (h1 : top ≤ 4) : ∃ l, m_rows_up_to s top = some l ∧ m_law_rows s top = some l ∧ l.length ≤ 100000 := by
  obtain ⟨t, rfl⟩ : ∃ t : Nat, top = t := ⟨top.toNat, by omega⟩
  have ht : t ≤ 4 := by omega
  have e1 : rangeI 0 ((t : Int) + 1).toNat = 0 :: (List.range t).map fun (k : Nat) => ((k : Int) + 1) := by
    rw [range_get, show ((t : Int) + 1).toNat = t + 1 by omega, List.range_succ_eq_map, List.map_cons, List.map_map]
    rfl
  have hpow : 4 ^ t ≤ 4 ^ 4 := Nat.pow_le_pow_right (by decide) ht
  have hpow' : 4 ^ t ≤ 256 := hpow
  have hmul : (t + 1) * 4 ^ t ≤ 5 * 256 := Nat.mul_le_mul (by omega) hpow'
  obtain ⟨l, lv2, a1, a2, a3, a4⟩ := ok_rows_l (s := s) hs ((List.range t).map fun (k : Nat) => ((k : Int) + 1)) (rangeI 0 t) 0 1 [tx ""] [tx ""] (by rw [rangeI_len]; simp) (fun k hk => by
    obtain ⟨j, _, rfl⟩ := List.mem_map.mp hk
    omega) (by simp; omega) (fun x hx => by rw [List.mem_singleton.mp hx]; decide) (by simp) (by simp; omega) (by simp; omega)
  refine ⟨l, ?_, ?_, a4⟩
  · unfold m_rows_up_to
    rw [e1]
    obtain ⟨_, r1, _⟩ := ok_rng (j := (t : Int) + 1) (by omega) (by omega)
    rw [r1]
    simp only [Option.bind_some]
    unfold upG
    exact a1
  · unfold m_law_rows
    obtain ⟨_, r1, _⟩ := ok_rng (j := (t : Int)) (by omega) (by omega)
    rw [r1, show ((t : Int)).toNat = t by omega]
    show (m_law_rows_l1 s (rangeI 0 t) [tx ""] [tx ""]).bind _ = _
    rw [a2]
    rfl
end Sg
namespace Sg
open Enc (enc)
open ToD (toD)
open PySem PySem.Spec PyProof.Rows L2
/-! turned and renamed -/
theorem ok_rc_l {row : Tx} (hl : row.length ≤ 10000) : ∀ ks : List Int, (∀ k ∈ ks, 0 ≤ k ∧ k < row.length) → Ok (m_law_row_changed_l1 row row.reverse ks) fun z => z = .nx ()
  | [], _ => .mk rfl
  | k :: ks, h => by
    obtain ⟨h0, h1⟩ := h k List.mem_cons_self
    unfold m_law_row_changed_l1
    refine Ok.bind (ok_ix (by simp; omega) h0 (by simpa using h1)) fun c1 e1 => ?_
    refine Ok.bind (ok_len (by omega)) fun t e => ?_
    subst e
    refine Ok.bind (ok_ix (by omega) (by omega) (by omega)) fun c2 e2 => ?_
    rw [List.getElem?_reverse (by omega)] at e1
    have ei : ((row.length : Int) - 1 - k).toNat = row.length - 1 - k.toNat := by omega
    rw [ei] at e2
    have ec := Option.some.inj (e1.symm.trans e2)
    subst ec
    refine Ok.bif (fun hb => ?_) (fun _ => ok_rc_l hl ks fun k hk => h k (List.mem_cons_of_mem _ hk))
    simp at hb
noncomputable def gR (old new : Tx) (c : Nat) : Nat := if findS old [c] < 0 then c else (new[(findS old [c]).toNat]?).getD 0
theorem ok_ren1 {old new : Tx} (h : old.length = new.length) (hn : new.length ≤ 100) (c : Nat) : Ok (bif decide ((findS old [c]) < (0 : Int)) then (some [c]) else ((ixS new (findS old [c])).bind fun c1 => some [c1])) fun z => z = [gR old new c] := by
  refine Ok.bif (fun hb => ?_) (fun hb => ?_)
  · have hb := of_decide_eq_true hb
    refine .mk ?_
    unfold gR
    rw [if_pos hb]
  · have hb := of_decide_eq_false hb
    rcases find_one old c with h1 | ⟨h1, h2⟩
    · exact absurd h1 hb
    · refine Ok.bind (ok_ix (by omega) h1 (by omega)) fun c1 e1 => .mk ?_
      unfold gR
      rw [if_neg hb, e1]
      rfl
theorem ok_ren_l {old new : Tx} (h : old.length = new.length) (hn : new.length ≤ 100) : ∀ (row : Tx) (out : List Tx), out.length + row.length ≤ 100000 → Ok (m_renamed_l1 old new row out) fun z => z = out ++ row.map fun c => [gR old new c]
  | [], out, _ => .mk (by simp)
  | c :: row, out, hl => by
    unfold m_renamed_l1
    simp only [List.length_cons] at hl
    refine Ok.bind (ok_ren1 h hn c) fun b e => ?_
    subst e
    refine Ok.bind (ok_app (by omega)) fun l e => ?_
    subst e
    refine (ok_ren_l h hn row _ (by simp; omega)).imp fun z hz => ?_
    rw [hz]
    simp
theorem ok_lren_l {old new : Tx} (h : old.length = new.length) (hn : new.length ≤ 100) : ∀ (row out : Tx), out.length + row.length ≤ 100000 → Ok (m_law_renamed_l1 old new row out) fun z => z = out ++ row.map (gR old new)
  | [], out, _ => .mk (by simp)
  | c :: row, out, hl => by
    unfold m_law_renamed_l1
    simp only [List.length_cons] at hl
    refine Ok.bind (ok_ren1 h hn c) fun b e => ?_
    subst e
    refine Ok.bind (ok_cat (by simp; omega)) fun l e => ?_
    subst e
    refine (ok_lren_l h hn row _ (by simp; omega)).imp fun z hz => ?_
    rw [hz]
    simp
theorem tx0 : tx "" = [] := rfl
theorem sum1 (g : Nat → Nat) : ∀ row : Tx, ((row.map fun c => [g c]).map List.length).sum = row.length
  | [] => rfl
  | c :: row => by
    simp only [List.map_cons, List.sum_cons, sum1 g row]
    simp
    omega
theorem flat1 (g : Nat → Nat) : ∀ row : Tx, (row.map fun c => [g c]).flatten = row.map g
  | [] => rfl
  | c :: row => by
    simp only [List.map_cons, List.flatten_cons, flat1 g row]
    rfl
theorem ok_changed {row old new : Tx} (hl : row.length ≤ 10000) (h : old.length = new.length) (hn : new.length ≤ 100) : Ok (m_law_row_changed row old new) fun b => b = true := by
  unfold m_law_row_changed m_turned
  refine Ok.bind (P := fun z => z = row.reverse) (Ok.bind (ok_rev (by omega)) fun t e => by subst e; exact .mk rfl) fun r e => ?_
  subst e
  refine Ok.bind (P := fun b => b = false) ?_ fun b e => ?_
  · refine Ok.bind (ok_len (by simp; omega)) fun t1 e1 => ?_
    refine Ok.bind (ok_len (by omega)) fun t2 e2 => ?_
    refine .mk ?_
    subst e1 e2
    simp
  · subst e
    show Ok ((lenS row).bind _) _
    refine Ok.bind (ok_len (by omega)) fun t3 e3 => ?_
    subst e3
    refine Ok.bind (ok_rng (by omega) (by omega)) fun _ _ => ?_
    refine Ok.cb ((ok_rc_l hl _ fun k hk => ?_).imp fun z hz => ⟨(), hz, ?_⟩)
    · have := range_mem hk
      omega
    · refine Ok.bind (P := fun z => z = row.map (gR old new)) ?_ fun r2 e2 => ?_
      · unfold m_renamed
        refine Ok.bind (ok_ren_l h hn row [] (by simp; omega)) fun out e => ?_
        rw [List.nil_append] at e
        subst e
        refine Ok.bind (P := fun z => z = row.map (gR old new)) ?_ fun t e => by subst e; exact .mk rfl
        unfold joinS
        rw [if_pos (by rw [sum1, tx0]; simp; omega), tx0, glue_nil, flat1]
        exact .mk rfl
      · refine Ok.bind (P := fun z => z = row.map (gR old new)) ?_ fun r3 e3 => ?_
        · unfold m_law_renamed
          refine Ok.bind (ok_lren_l h hn row (tx "") (by rw [tx0]; simp; omega)) fun out e => ?_
          rw [tx0, List.nil_append] at e
          subst e
          exact .mk rfl
        · subst e2 e3
          refine Ok.bind (.of (m_law_same_self (b := toD (α := Tx) _) trivial) rfl) fun b e => ?_
          subst e
          exact .mk rfl
/-! groups and alphabets -/
theorem grp_l : ∀ t : Tx, m_law_is_group_l1 t = m_is_group_l1 t
  | [] => rfl
  | c :: t => by
    unfold m_law_is_group_l1 m_is_group_l1
    rw [grp_l t]
theorem grp_same (t : Tx) : m_law_is_group t = m_is_group t := by
  unfold m_law_is_group m_is_group
  rw [grp_l]
theorem ok_grp_l : ∀ t : Tx, Ok (m_is_group_l1 t) fun z => (z = .nx () ∧ ∀ c ∈ t, c ∈ abc) ∨ (z = .rt false ∧ ¬ ∀ c ∈ t, c ∈ abc)
  | [] => .mk (.inl ⟨rfl, fun _ h => by cases h⟩)
  | c :: t => by
    unfold m_is_group_l1
    refine Ok.bif (fun hb => .mk (.inr ⟨rfl, fun h => ?_⟩)) (fun hb => (ok_grp_l t).imp fun z hz => ?_)
    · have := h c List.mem_cons_self
      simp [this] at hb
    · have hc : c ∈ abc := by simpa using hb
      rcases hz with ⟨e, h⟩ | ⟨e, h⟩
      · exact .inl ⟨e, fun d hd => (List.mem_cons.mp hd).elim (fun e => e ▸ hc) (h d)⟩
      · exact .inr ⟨e, fun k => h fun d hd => k d (List.mem_cons_of_mem _ hd)⟩
theorem ok_grp (t : Tx) : Ok (m_is_group t) fun b => b = true ↔ (t ≠ [] ∧ ∀ c ∈ t, c ∈ abc) := by
  unfold m_is_group
  obtain ⟨z, e, h⟩ := ok_grp_l t
  rw [e]
  rcases h with ⟨rfl, h⟩ | ⟨rfl, h⟩
  · refine .mk ?_
    rw [tx0]
    simp only [Bool.not_eq_true', decide_eq_false_iff_not]
    exact ⟨fun k => ⟨k, h⟩, fun k => k.1⟩
  · refine .mk ?_
    exact ⟨fun k => (by cases k), fun k => absurd k.2 h⟩
abbrev Lt (s : Tx) (i : Nat) : Prop := ∀ a b, s[i]? = some a → s[i + 1]? = some b → a < b
theorem one_lt (a b : Nat) : decide ([a] < [b]) = decide (a < b) := by
  rw [decide_eq_decide, List.cons_lt_cons_iff]
  simp
theorem ok_alp_l {s : Tx} (hs : s.length ≤ 1000) : ∀ (r : Tx) (k : Nat), s.drop k = r → Ok (m_is_alphabet_l1 s (enumS (k : Int) r)) fun z =>
    (z = .nx () ∧ (∀ c ∈ r, c ∈ abc) ∧ ∀ i, k ≤ i + 1 → Lt s i) ∨ (z = .rt false ∧ ¬ ((∀ c ∈ r, c ∈ abc) ∧ ∀ i, k ≤ i + 1 → Lt s i))
  | [], k, e => by
    refine .mk (.inl ⟨rfl, (fun _ h => by cases h), fun i hi a b h1 h2 => ?_⟩)
    have := (List.getElem?_eq_some_iff.mp h2).1
    have hk : s.length ≤ k := by
      have := congrArg List.length e
      simp at this
      omega
    omega
  | c :: r, k, e => by
    have hk : k < s.length := by
      have := congrArg List.length e
      simp at this
      omega
    rw [List.drop_eq_getElem_cons hk] at e
    obtain ⟨e1, e2⟩ := List.cons.inj e
    have gk : s[k]? = some c := by rw [List.getElem?_eq_getElem hk, e1]
    have step := ok_alp_l hs r (k + 1) e2
    show Ok (m_is_alphabet_l1 s (((k : Int), c) :: enumS ((k : Int) + 1) r)) _
    unfold m_is_alphabet_l1
    refine Ok.bind (P := fun b => b = false ↔ (c ∈ abc ∧ (0 < k → Lt s (k - 1)))) ?_ fun b hb => ?_
    · refine Ok.bif (fun h => .mk ?_) (fun h => Ok.bif (fun h2 => ?_) (fun h2 => .mk ?_))
      · exact ⟨fun z => (by cases z), fun z => by simp [z.1] at h⟩
      · have h2 := of_decide_eq_true h2
        have hk0 : 0 < k := by omega
        refine Ok.bind (ok_ix (by omega) (by omega) (by omega)) fun c1 ec => .mk ?_
        have ec' : s[k - 1]? = some c1 := by
          rw [show ((k : Int) - 1).toNat = k - 1 by omega] at ec
          exact ec
        rw [one_lt]
        have hc : c ∈ abc := by simpa using h
        simp only [Bool.not_eq_false', decide_eq_true_eq]
        refine ⟨fun z => ⟨hc, fun _ a b ha hb => ?_⟩, fun z => ?_⟩
        · rw [ec'] at ha
          rw [show k - 1 + 1 = k by omega, gk] at hb
          cases ha
          cases hb
          exact z
        · exact z.2 hk0 c1 c ec' (by rw [show k - 1 + 1 = k by omega]; exact gk)
      · have h2 := of_decide_eq_false h2
        have hc : c ∈ abc := by simpa using h
        exact ⟨fun _ => ⟨hc, fun hk0 => absurd (by omega) h2⟩, fun _ => rfl⟩
    · cases b with
      | true =>
        refine .mk (.inr ⟨rfl, fun z => ?_⟩)
        have : true = false := hb.mpr ⟨z.1 c List.mem_cons_self, fun h0 => z.2 (k - 1) (by omega)⟩
        cases this
      | false =>
        obtain ⟨b1, b2⟩ := hb.mp rfl
        refine step.imp fun z hz => ?_
        rcases hz with ⟨q, h1, h2⟩ | ⟨q, h⟩
        · refine .inl ⟨q, fun d hd => (List.mem_cons.mp hd).elim (fun e => e ▸ b1) (h1 d), fun i hi => ?_⟩
          by_cases hh : k = i + 1
          · have := b2 (by omega)
            rw [show k - 1 = i by omega] at this
            exact this
          · exact h2 i (by omega)
        · exact .inr ⟨q, fun y => h ⟨fun d hd => y.1 d (List.mem_cons_of_mem _ hd), fun i hi => y.2 i (by omega)⟩⟩
abbrev Alp (t : Tx) : Prop := 1 ≤ t.length ∧ t.length ≤ 4 ∧ (∀ c ∈ t, c ∈ abc) ∧ ∀ i, Lt t i
theorem ok_alp {t : Tx} (ht : t.length ≤ 1000) : Ok (m_is_alphabet t) fun b => b = true ↔ Alp t := by
  unfold m_is_alphabet
  refine Ok.bind (P := fun b => b = false ↔ (1 ≤ t.length ∧ t.length ≤ 4)) ?_ fun b hb => ?_
  · refine Ok.bind (ok_len (by omega)) fun t1 e1 => ?_
    subst e1
    refine Ok.bif (fun h => .mk ?_) (fun h => .mk ?_)
    · have h := of_decide_eq_true h
      simp only [Bool.not_eq_false', decide_eq_true_eq]
      omega
    · have h := of_decide_eq_false h
      exact ⟨fun z => (by cases z), fun z => absurd (by omega) h⟩
  · cases b with
    | true =>
      refine .mk ⟨fun z => (by cases z), fun z => ?_⟩
      have : true = false := hb.mpr ⟨z.1, z.2.1⟩
      cases this
    | false =>
      obtain ⟨b1, b2⟩ := hb.mp rfl
      obtain ⟨z, e, h⟩ := ok_alp_l (s := t) ht t 0 rfl
      show Ok (cbind (m_is_alphabet_l1 t (enumS ((0 : Nat) : Int) t)) _ _) _
      rw [e]
      rcases h with ⟨rfl, h1, h2⟩ | ⟨rfl, h⟩
      · exact .mk ⟨fun _ => ⟨b1, b2, h1, fun i => h2 i (by omega)⟩, fun _ => rfl⟩
      · exact .mk ⟨fun k => (by cases k), fun k => absurd ⟨k.2.2.1, fun i _ => k.2.2.2 i⟩ h⟩
theorem ok_lalp_l {t : Tx} (ht : t.length ≤ 1000) : ∀ ks : List Int, (∀ k ∈ ks, 0 ≤ k ∧ k + 1 < t.length) → Ok (m_law_is_alphabet_l1 t ks) fun z => (z = .nx () ∧ ∀ k ∈ ks, Lt t k.toNat) ∨ (z = .rt false ∧ ¬ ∀ k ∈ ks, Lt t k.toNat)
  | [], _ => .mk (.inl ⟨rfl, fun _ h => by cases h⟩)
  | k :: ks, h => by
    obtain ⟨h0, h1⟩ := h k List.mem_cons_self
    unfold m_law_is_alphabet_l1
    refine Ok.bind (ok_ix (by omega) h0 (by omega)) fun c1 e1 => ?_
    refine Ok.bind (ok_ix (by omega) (by omega) (by omega)) fun c2 e2 => ?_
    rw [show (k + 1).toNat = k.toNat + 1 by omega] at e2
    rw [one_lt]
    refine Ok.bif (fun hb => .mk (.inr ⟨rfl, fun z => ?_⟩)) (fun hb => (ok_lalp_l ht ks fun k hk => h k (List.mem_cons_of_mem _ hk)).imp fun z hz => ?_)
    · have := z k List.mem_cons_self c1 c2 e1 e2
      simp [this] at hb
    · have hlt : c1 < c2 := by simpa using hb
      have hk : Lt t k.toNat := fun a b ha hb => by
        rw [e1] at ha
        rw [e2] at hb
        cases ha
        cases hb
        exact hlt
      rcases hz with ⟨e, q⟩ | ⟨e, q⟩
      · exact .inl ⟨e, fun j hj => (List.mem_cons.mp hj).elim (fun e => e ▸ hk) (q j)⟩
      · exact .inr ⟨e, fun y => q fun j hj => y j (List.mem_cons_of_mem _ hj)⟩
theorem ok_lalp {t : Tx} (ht : t.length ≤ 1000) : Ok (m_law_is_alphabet t) fun b => b = true ↔ Alp t := by
  unfold m_law_is_alphabet
  refine Ok.bind (P := fun b => b = false ↔ (1 ≤ t.length ∧ t.length ≤ 4 ∧ ∀ c ∈ t, c ∈ abc)) ?_ fun b hb => ?_
  · rw [grp_same]
    refine Ok.bind (ok_grp t) fun r hr => ?_
    cases r with
    | false =>
      refine .mk ⟨fun z => (by cases z), fun z => ?_⟩
      have : false = true := hr.mpr ⟨fun e => by rw [e] at z; simp at z, z.2.2⟩
      cases this
    | true =>
      obtain ⟨r1, r2⟩ := hr.mp rfl
      refine Ok.bind (ok_len (by omega)) fun t1 e1 => .mk ?_
      subst e1
      have : 1 ≤ t.length := List.length_pos_iff.mpr r1
      simp only [decide_eq_false_iff_not]
      exact ⟨fun z => ⟨this, by omega, r2⟩, fun z => by omega⟩
  · cases b with
    | true =>
      refine .mk ⟨fun z => (by cases z), fun z => ?_⟩
      have : true = false := hb.mpr ⟨z.1, z.2.1, z.2.2.1⟩
      cases this
    | false =>
      obtain ⟨b1, b2, b3⟩ := hb.mp rfl
      show Ok ((lenS t).bind _) _
      refine Ok.bind (ok_len (by omega)) fun t2 e2 => ?_
      subst e2
      refine Ok.bind (ok_rng (by omega) (by omega)) fun _ _ => ?_
      obtain ⟨z, e, h⟩ := ok_lalp_l (t := t) ht (rangeI 0 ((t.length : Int) - 1).toNat) fun k hk => by
        have := range_mem hk
        omega
      rw [e]
      rcases h with ⟨rfl, h⟩ | ⟨rfl, h⟩
      · refine .mk ⟨fun _ => ⟨b1, b2, b3, fun i a b ha hb => ?_⟩, fun _ => rfl⟩
        have hi := (List.getElem?_eq_some_iff.mp hb).1
        refine h (i : Int) ?_ a b ha hb
        rw [range_get]
        exact List.mem_map.mpr ⟨i, List.mem_range.mpr (by omega), rfl⟩
      · refine .mk ⟨fun k => (by cases k), fun k => absurd (fun (j : Int) _ => k.2.2.2 j.toNat) h⟩
theorem alp_same {t : Tx} (ht : t.length ≤ 1000) : ∃ b, m_is_alphabet t = some b ∧ m_law_is_alphabet t = some b := by
  obtain ⟨b, e, h⟩ := ok_alp ht
  obtain ⟨b', e', h'⟩ := ok_lalp ht
  refine ⟨b, e, ?_⟩
  rw [e']
  have : b' = b := by
    have hh : b' = true ↔ b = true := h'.trans h.symm
    clear h h' e e'
    cases b <;> cases b' <;> simp_all
  rw [this]
/-! told -/
theorem ok5 (a b c d : Bool) (t : Tx) : okD 7 (toD (T5.mk a b c d t)) := by
  refine ⟨by show 5 < 2 ^ 62; decide, fun x hx => ?_⟩
  have hx : x ∈ [PyData.bool a, .bool b, .bool c, .bool d, .str (mkS t)] := hx
  simp only [List.mem_cons, List.not_mem_nil, or_false] at hx
  rcases hx with rfl | rfl | rfl | rfl | rfl <;> trivial
theorem same5 (a b c d : Bool) (t : Tx) : m_law_same (toD (T5.mk a b c d (toD (α := Tx) t))) (toD (T5.mk a b c d t)) = some true := m_law_same_self (ok5 a b c d t)
theorem same1 (t : Tx) : m_law_same (toD (α := Tx) t) (toD (α := Tx) t) = some true := m_law_same_self (b := toD (α := Tx) t) trivial
theorem sub1 : subE "InvalidSigns" "InvalidSigns" = true := by decide
theorem sub2 : subE "InvalidSigns" "InvalidGroup" = false := by decide
theorem sub3 : subE "InvalidSigns" "UnknownSign" = false := by decide
theorem sub4 : subE "InvalidGroup" "InvalidSigns" = false := by decide
theorem sub5 : subE "InvalidGroup" "InvalidGroup" = true := by decide
theorem sub6 : subE "InvalidGroup" "UnknownSign" = false := by decide
theorem sub7 : subE "UnknownSign" "InvalidSigns" = false := by decide
theorem sub8 : subE "UnknownSign" "InvalidGroup" = false := by decide
theorem sub9 : subE "UnknownSign" "UnknownSign" = true := by decide
theorem subA : subE "GrowsError" "InvalidSigns" = false := by decide
theorem subB : subE "GrowsError" "InvalidGroup" = false := by decide
theorem subC : subE "GrowsError" "UnknownSign" = false := by decide
theorem told_signs {t : Tx} (ht : t.length ≤ 1000) (ha : Asc t) : ∃ x due, (((m_law_is_alphabet t).bind fun r1 => bif r1 then (some (toD (α := Tx) t)) else (some (toD (T5.mk true false false true t)))) = some due) ∧ m_law_signs_told t = some x ∧ m_law_same x due = some true := by
  obtain ⟨b, e1, e2⟩ := alp_same ht
  obtain ⟨_, er, _⟩ := ok_rpr (a := t) (by omega) ha
  cases b with
  | true =>
    refine ⟨toD (α := Tx) t, toD (α := Tx) t, by rw [e2]; rfl, ?_, same1 t⟩
    unfold m_law_signs_told m_check_signs
    rw [e1]
    rfl
  | false =>
    refine ⟨_, toD (T5.mk true false false true t), by rw [e2]; rfl, ?_, same5 true false false true t⟩
    unfold m_law_signs_told m_check_signs
    rw [e1, er]
    show some (toD (T5.mk (subE "InvalidSigns" "InvalidSigns") (subE "InvalidSigns" "InvalidGroup") (subE "InvalidSigns" "UnknownSign") true (toD (α := Tx) t))) = _
    rw [sub1, sub2, sub3]
theorem told_group {t : Tx} (ht : t.length ≤ 1000) (ha : Asc t) : ∃ x due, (((m_law_is_group t).bind fun r1 => bif r1 then (some (toD (α := Tx) t)) else (some (toD (T5.mk false true false true t)))) = some due) ∧ m_law_group_told t = some x ∧ m_law_same x due = some true := by
  obtain ⟨b, e1, _⟩ := ok_grp t
  have e2 := grp_same t
  obtain ⟨_, er, _⟩ := ok_rpr (a := t) (by omega) ha
  cases b with
  | true =>
    refine ⟨toD (α := Tx) t, toD (α := Tx) t, by rw [e2, e1]; rfl, ?_, same1 t⟩
    unfold m_law_group_told m_check_group
    rw [e1]
    rfl
  | false =>
    refine ⟨_, toD (T5.mk false true false true t), by rw [e2, e1]; rfl, ?_, same5 false true false true t⟩
    unfold m_law_group_told m_check_group
    rw [e1, er]
    show some (toD (T5.mk (subE "InvalidGroup" "InvalidSigns") (subE "InvalidGroup" "InvalidGroup") (subE "InvalidGroup" "UnknownSign") true (toD (α := Tx) t))) = _
    rw [sub4, sub5, sub6]
theorem ok_texts_l : ∀ ts : List Tx, (∀ t ∈ ts, t.length ≤ 1000 ∧ Asc t) → Ok (m_law_texts_kept_l1 ts) fun z => z = .nx ()
  | [], _ => .mk rfl
  | t :: ts, h => by
    obtain ⟨h1, h2⟩ := h t List.mem_cons_self
    obtain ⟨x, due, a1, a2, a3⟩ := told_signs h1 h2
    obtain ⟨x', due', b1, b2, b3⟩ := told_group h1 h2
    unfold m_law_texts_kept_l1
    refine Ok.bind (.of a1 rfl) fun d e => ?_
    subst e
    refine Ok.bind (.of a2 rfl) fun d e => ?_
    subst e
    refine Ok.bind (.of a3 rfl) fun d e => ?_
    subst e
    refine Ok.bind (.of b1 rfl) fun d e => ?_
    subst e
    refine Ok.bind (.of b2 rfl) fun d e => ?_
    subst e
    refine Ok.bind (.of b3 rfl) fun d e => ?_
    subst e
    exact ok_texts_l ts fun t ht => h t (List.mem_cons_of_mem _ ht)
theorem ok_texts {ts : List Tx} (h : ∀ t ∈ ts, t.length ≤ 1000 ∧ Asc t) : Ok (m_law_texts_kept ts) fun b => b = true := by
  unfold m_law_texts_kept
  exact Ok.cb ((ok_texts_l ts h).imp fun z hz => ⟨(), hz, .mk rfl⟩)
/-! rows told -/
theorem strange_or (s : Tx) : ∀ row : Tx, Asc row → (m_law_strange_l1 s row = some (.nx ()) ∧ m_check_row_l1 s row = some (.nx ())) ∨ ∃ c, c < 128 ∧ m_law_strange_l1 s row = some (.rt [c]) ∧ m_check_row_l1 s row = some (.rt (Rs.ex "UnknownSign" (toD (α := Tx) [c])))
  | [], _ => .inl ⟨rfl, rfl⟩
  | c :: row, ha => by
    unfold m_law_strange_l1 m_check_row_l1
    by_cases hc : c ∈ s
    · rw [decide_eq_true hc]
      exact strange_or s row fun d hd => ha d (List.mem_cons_of_mem _ hd)
    · rw [decide_eq_false hc]
      have hc' := ha c List.mem_cons_self
      obtain ⟨_, er, _⟩ := ok_rpr (a := [c]) (by simp) (fun d hd => by rw [List.mem_singleton.mp hd]; exact hc')
      refine .inr ⟨c, hc', rfl, ?_⟩
      show (rprS [c]).bind _ = _
      rw [er]
      rfl
theorem told_row {row s : Tx} (ha : Asc row) : ∃ r x due, m_law_strange row s = some r ∧ (bif !decide (r = tx "") then (some (toD (T5.mk false false true true r))) else (some (toD (α := Tx) row))) = some due ∧ m_law_row_told row s = some x ∧ m_law_same x due = some true := by
  rcases strange_or s row ha with ⟨e1, e2⟩ | ⟨c, _, e1, e2⟩
  · refine ⟨tx "", toD (α := Tx) row, toD (α := Tx) row, ?_, rfl, ?_, same1 row⟩
    · unfold m_law_strange
      rw [e1]
      rfl
    · unfold m_law_row_told m_check_row
      rw [e2]
      rfl
  · refine ⟨[c], _, toD (T5.mk false false true true [c]), ?_, ?_, ?_, same5 false false true true [c]⟩
    · unfold m_law_strange
      rw [e1]
      rfl
    · rw [tx0, decide_eq_false (List.cons_ne_nil _ _)]
      rfl
    · unfold m_law_row_told m_check_row
      rw [e2]
      show some (toD (T5.mk (subE "UnknownSign" "InvalidSigns") (subE "UnknownSign" "InvalidGroup") (subE "UnknownSign" "UnknownSign") true (toD (α := Tx) [c]))) = _
      rw [sub7, sub8, sub9]
theorem ok_rowsk_l (s : Tx) : ∀ ts : List Tx, (∀ t ∈ ts, Asc t) → Ok (m_law_rows_kept_l1 s ts) fun z => z = .nx ()
  | [], _ => .mk rfl
  | t :: ts, h => by
    obtain ⟨r, x, due, a0, a1, a2, a3⟩ := told_row (s := s) (h t List.mem_cons_self)
    unfold m_law_rows_kept_l1
    refine Ok.bind (.of a0 rfl) fun d e => ?_
    subst e
    refine Ok.bind (.of a1 rfl) fun d e => ?_
    subst e
    refine Ok.bind (.of a2 rfl) fun d e => ?_
    subst e
    refine Ok.bind (.of a3 rfl) fun d e => ?_
    subst e
    exact ok_rowsk_l s ts fun t ht => h t (List.mem_cons_of_mem _ ht)
theorem ok_rowsk {s : Tx} {ts : List Tx} (h : ∀ t ∈ ts, Asc t) : Ok (m_law_rows_kept ts s) fun b => b = true := by
  unfold m_law_rows_kept
  exact Ok.cb ((ok_rowsk_l s ts h).imp fun z hz => ⟨(), hz, .mk rfl⟩)
/-! spare signs -/
theorem ok_spare_l (s : Tx) : ∀ (r : Tx) (acc : List Ch), acc.length + r.length ≤ 100 → Ok (m_law_l2 s r acc) fun z => z = acc ++ (r.filter fun c => !decide (c ∈ s)).map Ch.mk
  | [], acc, _ => .mk (by simp)
  | c :: r, acc, h => by
    unfold m_law_l2
    simp only [List.length_cons] at h
    refine Ok.bif (fun hb => ?_) (fun hb => (ok_spare_l s r acc (by omega)).imp fun z hz => ?_)
    · refine Ok.bind (ok_app (by omega)) fun l e => ?_
      subst e
      refine (ok_spare_l s r _ (by simp; omega)).imp fun z hz => ?_
      rw [hz, List.filter_cons, if_pos hb]
      simp
    · rw [hz, List.filter_cons, if_neg (by rw [hb]; exact Bool.false_ne_true)]
theorem filter_len (r : Tx) (hr : r.Nodup) : ∀ s : Tx, r.length ≤ (r.filter fun c => !decide (c ∈ s)).length + s.length
  | [] => by
    rw [List.filter_eq_self.mpr (fun c _ => by simp)]
    simp
  | a :: s => by
    have ih := filter_len r hr s
    have e : (r.filter fun c => !decide (c ∈ a :: s)) = ((r.filter fun c => !decide (c ∈ s)).filter fun c => !decide (c = a)) := by
      rw [List.filter_filter]
      congr 1
      funext c
      simp
    rw [e]
    have hn : (r.filter fun c => !decide (c ∈ s)).Nodup := hr.filter _
    generalize (r.filter fun c => !decide (c ∈ s)) = l at hn ih
    have key : ∀ l : Tx, l.Nodup → l.length ≤ (l.filter fun c => !decide (c = a)).length + 1 := by
      intro l
      induction l with
      | nil => intro _; simp
      | cons b l ihl =>
        intro hnd
        rw [List.nodup_cons] at hnd
        by_cases hb : b = a
        · rw [List.filter_cons, if_neg (by simp [hb])]
          have : (l.filter fun c => !decide (c = a)) = l := by
            rw [List.filter_eq_self]
            intro c hc
            have : c ≠ a := fun e => hnd.1 (by rw [hb, ← e]; exact hc)
            simp [this]
          rw [this]
          simp
        · rw [List.filter_cons, if_pos (by simp [hb])]
          have := ihl hnd.2
          simp only [List.length_cons]
          omega
    have := key l hn
    simp only [List.length_cons]
    omega
theorem ok_spare {s : Tx} (hs : s.length ≤ 4) : Ok (m_law_l2 s abc []) fun z => 22 ≤ z.length ∧ ∀ x ∈ z, x.c < 128 := by
  have hl := abc_len
  refine (ok_spare_l s abc [] (by simp [hl])).imp fun z hz => ?_
  rw [List.nil_append] at hz
  subst hz
  refine ⟨?_, fun x hx => ?_⟩
  · rw [List.length_map]
    have := filter_len abc (by decide +kernel) s
    omega
  · obtain ⟨c, hc, rfl⟩ := List.mem_map.mp hx
    exact abc_lt c (List.mem_filter.mp hc).1
theorem okD_rows {l : List Tx} (h : l.length ≤ 100000) : okD 7 (toD l) := by
  refine ⟨?_, fun d hd => ?_⟩
  · show (l.map toD).length < 2 ^ 62
    rw [List.length_map]
    omega
  · obtain ⟨t, _, rfl⟩ := List.mem_map.mp (show d ∈ l.map toD from hd)
    trivial
theorem ok_l1 {s : Tx} (hs : s.length ≤ 4) : ∀ ts : List Int, (∀ t ∈ ts, 0 ≤ t ∧ t ≤ 4) → Ok (m_law_l1 s ts) fun z => z = .nx ()
  | [], _ => .mk rfl
  | t :: ts, h => by
    obtain ⟨h0, h1⟩ := h t List.mem_cons_self
    obtain ⟨l, a1, a2, a3⟩ := rows_same hs h0 h1
    unfold m_law_l1
    refine Ok.bind (.of a1 rfl) fun d e => ?_
    subst e
    refine Ok.bind (.of a2 rfl) fun d e => ?_
    subst e
    refine Ok.bind (.of (m_law_same_self (b := toD l) (okD_rows a3)) rfl) fun d e => ?_
    subst e
    exact ok_l1 hs ts fun t ht => h t (List.mem_cons_of_mem _ ht)
theorem abc_asc : Asc abc := abc_lt
theorem asc_of {s : Tx} (h : ∀ c ∈ s, c ∈ abc) : Asc s := fun c hc => abc_lt c (h c hc)
theorem ok_law0 (cs : List Int) : Ok (m_law cs) fun b => b = true := by
  unfold m_law
  refine Ok.bind (ok_draw (Int.le_refl 0) (by decide) (by decide)) ?_
  rintro ⟨r1, st1⟩ ⟨h1, h2, h3⟩
  dsimp only at h1 h2 h3
  refine Ok.bind (ok_at (l := ([tx "abcd", tx "abcdefghijklmnopqrstuvwxyz"] : List Tx)) h1 (by show r1 < 2; exact h2)) fun x1 ex => ?_
  have hx : x1 ∈ ([tx "abcd", tx "abcdefghijklmnopqrstuvwxyz"] : List Tx) := List.mem_of_getElem? ex
  have hx1 : 4 ≤ x1.length ∧ x1.length ≤ 26 ∧ ∀ c ∈ x1, c ∈ abc := by
    simp only [List.mem_cons, List.not_mem_nil, or_false] at hx
    rcases hx with rfl | rfl
    · decide +kernel
    · decide +kernel
  obtain ⟨p1, p2, p3⟩ := hx1
  refine Ok.bind (ok_draw h3 (by decide) (by decide)) ?_
  rintro ⟨r2, st2⟩ ⟨h4, h5, h6⟩
  dsimp only at h4 h5 h6
  refine Ok.bind (ok_unlike h4 (by omega) (by omega) h6) ?_
  rintro ⟨r3, st3⟩ ⟨u1, u2⟩
  dsimp only at u1 u2
  refine Ok.bind (ok_unlike h4 (by omega) (by omega) u2) ?_
  rintro ⟨r4, st4⟩ ⟨u3, u4⟩
  dsimp only at u3 u4
  refine Ok.bind (ok_word (by omega) (by omega) (by decide) (by decide) (by decide) u4) ?_
  rintro ⟨r5, st5⟩ ⟨w1, w2, w3⟩
  dsimp only at w1 w2 w3
  have w1' : r5.length ≤ 12 := w1
  refine Ok.bind (P := fun x : Tx × LS => (x.1.length ≤ 192 ∧ Asc x.1) ∧ 0 ≤ x.2.a) ?_ ?_
  · refine Ok.bind (ok_draw w3 (by decide) (by decide)) ?_
    rintro ⟨r6, st7⟩ ⟨k1, k2, k3⟩
    dsimp only at k1 k2 k3
    have a5 : Asc r5 := asc_of fun c hc => p3 c (w2 c hc)
    refine Ok.bif (fun _ => ?_) (fun _ => .mk ⟨⟨by show r5.length ≤ 192; omega, a5⟩, k3⟩)
    refine Ok.bind (ok_draw k3 (by decide) (by decide)) ?_
    rintro ⟨r7, st8⟩ ⟨k4, k5, k6⟩
    dsimp only at k4 k5 k6
    have hm : r5.length * ((1 : Int) + r7).toNat ≤ 12 * 16 := Nat.mul_le_mul w1' (by omega)
    refine Ok.bind (ok_rep (by omega) (by omega) (by omega)) fun t1 e1 => ?_
    exact .mk ⟨⟨by show t1.length ≤ 192; rw [e1.1]; exact hm, a5.sub e1.2⟩, k6⟩
  rintro ⟨row, st6⟩ ⟨⟨q1, q2⟩, q3⟩
  dsimp only at q1 q2 q3
  refine Ok.bind (P := fun b => b = false) ?_ fun b e => ?_
  · refine Ok.bind (ok_changed (by omega) (by omega) (by omega)) fun r8 e => ?_
    subst e
    show Ok ((catS (tx "abba") row).bind _) _
    refine Ok.bind (ok_cat (by show 4 + _ ≤ _; omega)) fun t2 e => ?_
    subst e
    refine Ok.bind (ok_changed (by rw [List.length_append]; show 4 + _ ≤ _; omega) rfl (by decide)) fun r9 e => ?_
    subst e
    exact .mk rfl
  subst e
  show Ok ((catS row (tx "xyz")).bind _) _
  refine Ok.bind (ok_cat (by show _ + 3 ≤ _; omega)) fun t3 e => ?_
  subst e
  refine Ok.bind (ok_changed (by rw [List.length_append]; show _ + 3 ≤ _; omega) rfl (by decide)) fun r10 e => ?_
  subst e
  show Ok ((m_law_signs cs st6 (4 : Int)).bind _) _
  refine Ok.bind (ok_signs q3) ?_
  rintro ⟨s, st9⟩ ⟨s1, s2, s3, s4⟩
  dsimp only at s1 s2 s3 s4
  have sa : Asc s := asc_of s3
  refine Ok.bind (ok_draw s4 (by decide) (by decide)) ?_
  rintro ⟨r12, st10⟩ ⟨g1, g2, g3⟩
  dsimp only at g1 g2 g3
  refine Ok.bind (P := fun x : Int => 0 ≤ x ∧ x ≤ 4) ?_ fun len1 hlen => ?_
  · refine Ok.bind (P := fun _ => True) ?_ fun b _ => Ok.bif (fun _ => .mk (by decide)) (fun _ => .mk ⟨g1, by omega⟩)
    refine Ok.bind (ok_len (by omega)) fun t4 _ => Ok.bif (fun _ => .mk trivial) (fun _ => .mk trivial)
  refine Ok.cb ((ok_l1 s2 _ fun t ht => ?_).imp fun z hz => ⟨(), hz, ?_⟩)
  · simp only [List.mem_cons, List.not_mem_nil, or_false] at ht
    rcases ht with rfl | rfl | rfl
    · exact hlen
    · decide
    · decide
  refine Ok.bind (ok_word (by omega) (by omega) (by decide) (by decide) (by decide) g3) ?_
  rintro ⟨r16, st11⟩ ⟨w4, w5, w6⟩
  dsimp only at w4 w5 w6
  have w4' : r16.length ≤ 8 := w4
  have wa : Asc r16 := asc_of fun c hc => s3 c (w5 c hc)
  refine Ok.bind (ok_spare s2) fun acc hacc => ?_
  refine Ok.bind (ok_draw w6 (by decide) (by decide)) ?_
  rintro ⟨r17, st12⟩ ⟨g4, g5, g6⟩
  dsimp only at g4 g5 g6
  refine Ok.bind (ok_at g4 (by omega)) fun x2 ex2 => ?_
  have ha2 : Asc [x2.c] := fun c hc => by
    rw [List.mem_singleton.mp hc]
    exact hacc.2 x2 (List.mem_of_getElem? ex2)
  refine Ok.bind (ok_bent (n := 8) ⟨w4', wa⟩ (by decide) g6) ?_
  rintro ⟨r18, st13⟩ ⟨⟨v1, v2⟩, v3⟩
  dsimp only at v1 v2 v3
  have b1 : [x2.c].length ≤ 1 ∧ Asc [x2.c] := ⟨Nat.le_refl _, ha2⟩
  have bs : s.length ≤ 4 ∧ Asc s := ⟨s2, sa⟩
  have bw : r16.length ≤ 8 ∧ Asc r16 := ⟨w4', wa⟩
  have bZ : (tx "Z").length ≤ 1 ∧ Asc (tx "Z") := by decide +kernel
  have bT : (tx "~").length ≤ 1 ∧ Asc (tx "~") := by decide +kernel
  have bS : (tx " ").length ≤ 1 ∧ Asc (tx " ") := by decide +kernel
  refine Ok.bind (ok_catB bs b1 (by decide)) fun t5 c5 => ?_
  refine Ok.bind (ok_catB c5 bw (by decide)) fun t6 c6 => ?_
  refine Ok.bind (ok_catB c6 bZ (by decide)) fun t7 c7 => ?_
  refine Ok.bind (ok_catB bw bT (by decide)) fun t8 c8 => ?_
  refine Ok.bind (ok_catB c8 b1 (by decide)) fun t9 c9 => ?_
  refine Ok.bind (ok_catB bw bs (by decide)) fun t10 c10 => ?_
  refine Ok.bind (ok_catB c10 bw (by decide)) fun t11 c11 => ?_
  refine Ok.bind (ok_catB bS bs (by decide)) fun t12 c12 => ?_
  refine Ok.bind (ok_rowsk (s := s) fun t ht => ?_) fun r19 e => ?_
  · simp only [List.mem_cons, List.not_mem_nil, or_false] at ht
    rcases ht with rfl | rfl | rfl | rfl | rfl | rfl | rfl | rfl
    · exact wa
    · exact v2
    · exact c7.2
    · exact c9.2
    · exact c11.2
    · exact c12.2
    · intro c hc; cases hc
    · exact v2
  subst e
  show Ok ((m_law_bent cs st13 s).bind _) _
  refine Ok.bind (ok_bent (n := 4) ⟨s2, sa⟩ (by decide) v3) ?_
  rintro ⟨r20, st14⟩ ⟨⟨v4, v5⟩, v6⟩
  dsimp only at v4 v5 v6
  have hl26 : (tx "abcdefghijklmnopqrstuvwxyz").length = 26 := abc_len
  refine Ok.bind (ok_word (by omega) (by omega) (by decide) (by decide) (by decide) v6) ?_
  rintro ⟨r21, st15⟩ ⟨w7, w8, w9⟩
  dsimp only at w7 w8 w9
  have w7' : r21.length ≤ 5 := w7
  refine Ok.bind (ok_bent (n := 5) ⟨w7', asc_of w8⟩ (by decide) w9) ?_
  rintro ⟨r22, st16⟩ ⟨⟨v7, v8⟩, v9⟩
  dsimp only at v7 v8 v9
  refine Ok.bind (ok_catL (by show 16 + 3 ≤ _; decide)) fun t13 e => ?_
  have hall : ∀ t ∈ t13, t.length ≤ 1000 ∧ Asc t := by
    intro t ht
    rw [e] at ht
    rcases List.mem_append.mp ht with ht | ht
    · have key : ∀ t ∈ ([tx "", tx "a", tx "z", tx "ba", tx "aa", tx "az", tx "abcd", tx "bcxyz", tx "abb", tx "Ab", tx "aB", tx "AB", tx "a c", tx " ", tx "a1", tx "-"] : List Tx), t.length ≤ 1000 ∧ Asc t := by decide +kernel
      exact key t ht
    · simp only [List.mem_cons, List.not_mem_nil, or_false] at ht
      rcases ht with rfl | rfl | rfl
      · exact ⟨by omega, sa⟩
      · exact ⟨by omega, v5⟩
      · exact ⟨by omega, v8⟩
  refine Ok.bind (P := fun b => b = false) ?_ fun b e => ?_
  · refine Ok.bind (ok_texts hall) fun r23 e => ?_
    subst e
    show Ok ((m_law_texts_kept t13.reverse).bind _) _
    refine Ok.bind (ok_texts fun t ht => hall t (List.mem_reverse.mp ht)) fun r24 e => ?_
    subst e
    exact .mk rfl
  subst e
  show Ok ((catS row (tx " ")).bind _) _
  refine Ok.bind (ok_cat (by show _ + 1 ≤ _; omega)) fun t14 e => ?_
  subst e
  have a14 : Asc (row ++ tx " ") := q2.app bS.2
  refine Ok.bind (P := fun x => x = toD (T5.mk false false false true (toD (α := Tx) (row ++ tx " ")))) ?_ fun r25 e => ?_
  · unfold m_law_raised
    refine Ok.bind (ok_rpr (by rw [List.length_append]; show _ + 1 ≤ _; omega) a14) fun _ _ => .mk ?_
    rw [subA, subB, subC]
  subst e
  refine Ok.bind (ok_cat (by show _ + 1 ≤ _; omega)) fun t15 e => ?_
  subst e
  refine Ok.bind (.of (same5 false false false true (row ++ tx " ")) rfl) fun b e => ?_
  subst e
  exact .mk rfl
theorem law_true (ns : List Int) (h : ns.length ≤ 63) : m_law ns = some true := (ok_law0 ns).eq
end Sg
namespace Sg
open Enc (enc)
open ToD (toD)
open Enc (enc)
open ToD (toD)
open PySem PySem.Spec PyProof.Rows L2
def eN : List Stmt := match topS 1 with
  | .ClassDef (body := b) .. => b
  | _ => []
def giS : Stmt := eN.getD 0 (.Pass ⟨0, 0, 0, 0⟩)
theorem giT : GiT giS := ⟨⟨⟨_, _, _, _, _, _, _, _, _, _, _, _, _, _⟩, rfl, rfl, rfl, rfl⟩⟩
def dd_is_alphabet : He.DefD := ⟨("is_alphabet", none), "is_alphabet", "is_alphabet", defArgs (topS 7), defBody (topS 7), defScope (topS 7), [], []⟩
def dd_is_group : He.DefD := ⟨("is_group", none), "is_group", "is_group", defArgs (topS 8), defBody (topS 8), defScope (topS 8), [], []⟩
def dd_check_signs : He.DefD := ⟨("check_signs", none), "check_signs", "check_signs", defArgs (topS 9), defBody (topS 9), defScope (topS 9), [], []⟩
def dd_check_group : He.DefD := ⟨("check_group", none), "check_group", "check_group", defArgs (topS 10), defBody (topS 10), defScope (topS 10), [], []⟩
def dd_check_row : He.DefD := ⟨("check_row", none), "check_row", "check_row", defArgs (topS 11), defBody (topS 11), defScope (topS 11), [], []⟩
def dd_turned : He.DefD := ⟨("turned", none), "turned", "turned", defArgs (topS 12), defBody (topS 12), defScope (topS 12), [], []⟩
def dd_renamed : He.DefD := ⟨("renamed", none), "renamed", "renamed", defArgs (topS 13), defBody (topS 13), defScope (topS 13), [], []⟩
def dd_law_draw : He.DefD := ⟨("_law_draw", none), "_law_draw", "_law_draw", defArgs (topS 17), defBody (topS 17), defScope (topS 17), [], []⟩
def dd_law_same : He.DefD := ⟨("_law_same", none), "_law_same", "_law_same", defArgs (topS 18), defBody (topS 18), defScope (topS 18), [], []⟩
def dd_law_signs : He.DefD := ⟨("_law_signs", none), "_law_signs", "_law_signs", defArgs (topS 19), defBody (topS 19), defScope (topS 19), [], []⟩
def dd_law_word : He.DefD := ⟨("_law_word", none), "_law_word", "_law_word", defArgs (topS 20), defBody (topS 20), defScope (topS 20), [], []⟩
def dd_law_rows : He.DefD := ⟨("_law_rows", none), "_law_rows", "_law_rows", defArgs (topS 21), defBody (topS 21), defScope (topS 21), [], []⟩
def dd_law_renamed : He.DefD := ⟨("_law_renamed", none), "_law_renamed", "_law_renamed", defArgs (topS 22), defBody (topS 22), defScope (topS 22), [], []⟩
def dd_law_char : He.DefD := ⟨("_law_char", none), "_law_char", "_law_char", defArgs (topS 23), defBody (topS 23), defScope (topS 23), [], []⟩
def dd_law_bent : He.DefD := ⟨("_law_bent", none), "_law_bent", "_law_bent", defArgs (topS 24), defBody (topS 24), defScope (topS 24), [], []⟩
def dd_law_unlike : He.DefD := ⟨("_law_unlike", none), "_law_unlike", "_law_unlike", defArgs (topS 25), defBody (topS 25), defScope (topS 25), [], []⟩
def dd_law_is_group : He.DefD := ⟨("_law_is_group", none), "_law_is_group", "_law_is_group", defArgs (topS 26), defBody (topS 26), defScope (topS 26), [], []⟩
def dd_law_is_alphabet : He.DefD := ⟨("_law_is_alphabet", none), "_law_is_alphabet", "_law_is_alphabet", defArgs (topS 27), defBody (topS 27), defScope (topS 27), [], []⟩
def dd_law_strange : He.DefD := ⟨("_law_strange", none), "_law_strange", "_law_strange", defArgs (topS 28), defBody (topS 28), defScope (topS 28), [], []⟩
def dd_law_signs_told : He.DefD := ⟨("_law_signs_told", none), "_law_signs_told", "_law_signs_told", defArgs (topS 29), defBody (topS 29), defScope (topS 29), [], []⟩
def dd_law_group_told : He.DefD := ⟨("_law_group_told", none), "_law_group_told", "_law_group_told", defArgs (topS 30), defBody (topS 30), defScope (topS 30), [], []⟩
def dd_law_row_told : He.DefD := ⟨("_law_row_told", none), "_law_row_told", "_law_row_told", defArgs (topS 31), defBody (topS 31), defScope (topS 31), [], []⟩
def dd_law_raised : He.DefD := ⟨("_law_raised", none), "_law_raised", "_law_raised", defArgs (topS 32), defBody (topS 32), defScope (topS 32), [], []⟩
def dd_law_texts_kept : He.DefD := ⟨("_law_texts_kept", none), "_law_texts_kept", "_law_texts_kept", defArgs (topS 33), defBody (topS 33), defScope (topS 33), [], []⟩
def dd_law_rows_kept : He.DefD := ⟨("_law_rows_kept", none), "_law_rows_kept", "_law_rows_kept", defArgs (topS 34), defBody (topS 34), defScope (topS 34), [], []⟩
def dd_law_row_changed : He.DefD := ⟨("_law_row_changed", none), "_law_row_changed", "_law_row_changed", defArgs (topS 35), defBody (topS 35), defScope (topS 35), [], []⟩
def dd_law_new : He.DefD := ⟨("_law_new", none), "_law_new", "_law_new", defArgs (topS 16), defBody (topS 16), defScope (topS 16), [], []⟩
def dd_rows_up_to : He.DefD := ⟨("rows_up_to", none), "rows_up_to", "rows_up_to", defArgs (topS 14), defBody (topS 14), defScope (topS 14), [], []⟩
def dd_law : He.DefD := ⟨("law", none), "law", "law", defArgs (topS 36), defBody (topS 36), defScope (topS 36), [], []⟩
def fnS : List He.DefD := [dd_is_alphabet, dd_is_group, dd_check_signs, dd_check_group, dd_check_row, dd_turned, dd_renamed, dd_law_draw, dd_law_same, dd_law_signs, dd_law_word, dd_law_rows, dd_law_renamed, dd_law_char, dd_law_bent, dd_law_unlike, dd_law_is_group, dd_law_is_alphabet, dd_law_strange, dd_law_signs_told, dd_law_group_told, dd_law_row_told, dd_law_raised, dd_law_texts_kept, dd_law_rows_kept, dd_law_row_changed, dd_law_new, dd_rows_up_to, dd_law]
def faS : List He.Fa := [.glo "is_alphabet", .glo "is_group", .glo "check_signs", .glo "check_group", .glo "check_row", .glo "turned", .glo "renamed", .glo "_law_draw", .glo "_law_same", .glo "_law_signs", .glo "_law_word", .glo "_law_rows", .glo "_law_renamed", .glo "_law_char", .glo "_law_bent", .glo "_law_unlike", .glo "_law_is_group", .glo "_law_is_alphabet", .glo "_law_strange", .glo "_law_signs_told", .glo "_law_group_told", .glo "_law_row_told", .glo "_law_raised", .glo "_law_texts_kept", .glo "_law_rows_kept", .glo "_law_row_changed", .glo "_law_new", .glo "rows_up_to", .glo "law", .free "len", .free "int", .free "list", .free "range", .free "isinstance", .free "enumerate", .free "bool", .free "str", .free "tuple", .free "ValueError", .free "super", .free "repr", .str "LETTERS" "abcdefghijklmnopqrstuvwxyz"]
abbrev prS : Program := (PySem.W.OpenLaw.row PySem.Challenge.rw_stillgrows_k00_words_and_their_refusals).prog
abbrev prL : Program := PySem.Challenge.rw_stillgrows_k00_words_and_their_refusals.prog
abbrev hkS : PySem.W.Hook := hookS prL 4 faS fnS errs giS
def obS (s : PySem.W.SharedT) : AlS := obsSG prL 4 faS fnS errs (HandSHeadRun.getT s)
theorem obS_eq (s : PySem.W.SharedT) : obS s = hkS.obs s.abs := obsSG_eq (HandSHeadRun.getT_eq s)
def looseS : List Str := (["__name__", "GrowsError", "InvalidSigns", "UnknownSign", "InvalidGroup", "LETTERS", "is_alphabet", "is_group", "check_signs", "check_group", "check_row", "turned", "renamed", "rows_up_to", "_law_new"] : List Str) ++ (["_law_draw", "_law_same", "_law_signs", "_law_word", "_law_rows", "_law_renamed", "_law_char", "_law_bent", "_law_unlike", "_law_is_group", "_law_is_alphabet", "_law_strange", "_law_signs_told", "_law_group_told", "_law_row_told"] : List Str) ++ (["_law_raised", "_law_texts_kept", "_law_rows_kept", "_law_row_changed"] : List Str)
theorem runS (w : World) : HandSHeadRun.RunEq (PySem.W.OpenLaw.row PySem.Challenge.rw_stillgrows_k00_words_and_their_refusals) (PySem.W.view prS [36]) hkS obS 4000 looseS w := by
  intro os
  kernel_rfl
theorem gdS {P : Program} {K : KF} {h : Heap} {mg : Str → Option Value} (X : K.In h) (G : h.Ns mainGlobals mg) (c : SaysS P faS fnS errs giS K) : ∃ D : Gd P K mg, D.f_law = He.ga K "law" := by
  have c2 := c.d
  obtain ⟨fd0, F0⟩ := c2.def_ 0 (d := dd_is_alphabet) rfl
  obtain ⟨fd1, F1⟩ := c2.def_ 1 (d := dd_is_group) rfl
  obtain ⟨fd2, F2⟩ := c2.def_ 2 (d := dd_check_signs) rfl
  obtain ⟨fd3, F3⟩ := c2.def_ 3 (d := dd_check_group) rfl
  obtain ⟨fd4, F4⟩ := c2.def_ 4 (d := dd_check_row) rfl
  obtain ⟨fd5, F5⟩ := c2.def_ 5 (d := dd_turned) rfl
  obtain ⟨fd6, F6⟩ := c2.def_ 6 (d := dd_renamed) rfl
  obtain ⟨fd7, F7⟩ := c2.def_ 7 (d := dd_law_draw) rfl
  obtain ⟨fd8, F8⟩ := c2.def_ 8 (d := dd_law_same) rfl
  obtain ⟨fd9, F9⟩ := c2.def_ 9 (d := dd_law_signs) rfl
  obtain ⟨fd10, F10⟩ := c2.def_ 10 (d := dd_law_word) rfl
  obtain ⟨fd11, F11⟩ := c2.def_ 11 (d := dd_law_rows) rfl
  obtain ⟨fd12, F12⟩ := c2.def_ 12 (d := dd_law_renamed) rfl
  obtain ⟨fd13, F13⟩ := c2.def_ 13 (d := dd_law_char) rfl
  obtain ⟨fd14, F14⟩ := c2.def_ 14 (d := dd_law_bent) rfl
  obtain ⟨fd15, F15⟩ := c2.def_ 15 (d := dd_law_unlike) rfl
  obtain ⟨fd16, F16⟩ := c2.def_ 16 (d := dd_law_is_group) rfl
  obtain ⟨fd17, F17⟩ := c2.def_ 17 (d := dd_law_is_alphabet) rfl
  obtain ⟨fd18, F18⟩ := c2.def_ 18 (d := dd_law_strange) rfl
  obtain ⟨fd19, F19⟩ := c2.def_ 19 (d := dd_law_signs_told) rfl
  obtain ⟨fd20, F20⟩ := c2.def_ 20 (d := dd_law_group_told) rfl
  obtain ⟨fd21, F21⟩ := c2.def_ 21 (d := dd_law_row_told) rfl
  obtain ⟨fd22, F22⟩ := c2.def_ 22 (d := dd_law_raised) rfl
  obtain ⟨fd23, F23⟩ := c2.def_ 23 (d := dd_law_texts_kept) rfl
  obtain ⟨fd24, F24⟩ := c2.def_ 24 (d := dd_law_rows_kept) rfl
  obtain ⟨fd25, F25⟩ := c2.def_ 25 (d := dd_law_row_changed) rfl
  obtain ⟨fd26, F26⟩ := c2.def_ 26 (d := dd_law_new) rfl
  obtain ⟨fd27, F27⟩ := c2.def_ 27 (d := dd_rows_up_to) rfl
  obtain ⟨fd28, F28⟩ := c2.def_ 28 (d := dd_law) rfl
  exact ⟨Gd.mk (c.errs X G giT)
      (He.free_ok X G (c2.fact 29 (f := .free "len") rfl))
      (He.free_ok X G (c2.fact 30 (f := .free "int") rfl))
      (He.free_ok X G (c2.fact 31 (f := .free "list") rfl))
      (He.free_ok X G (c2.fact 32 (f := .free "range") rfl))
      (He.free_ok X G (c2.fact 33 (f := .free "isinstance") rfl))
      (He.free_ok X G (c2.fact 34 (f := .free "enumerate") rfl))
      (He.free_ok X G (c2.fact 35 (f := .free "bool") rfl))
      (He.free_ok X G (c2.fact 36 (f := .free "str") rfl))
      (He.free_ok X G (c2.fact 37 (f := .free "tuple") rfl))
      (He.free_ok X G (c2.fact 38 (f := .free "ValueError") rfl))
      (He.free_ok X G (c2.fact 39 (f := .free "super") rfl))
      (He.free_ok X G (c2.fact 40 (f := .free "repr") rfl))
      (He.str_ok X G (c2.fact 41 (f := .str "LETTERS" "abcdefghijklmnopqrstuvwxyz") rfl))
      (He.ga K "is_alphabet") fd0 F0 (He.glo_ok X G (c2.fact 0 (f := .glo "is_alphabet") rfl))
      (He.ga K "is_group") fd1 F1 (He.glo_ok X G (c2.fact 1 (f := .glo "is_group") rfl))
      (He.ga K "check_signs") fd2 F2 (He.glo_ok X G (c2.fact 2 (f := .glo "check_signs") rfl))
      (He.ga K "check_group") fd3 F3 (He.glo_ok X G (c2.fact 3 (f := .glo "check_group") rfl))
      (He.ga K "check_row") fd4 F4 (He.glo_ok X G (c2.fact 4 (f := .glo "check_row") rfl))
      (He.ga K "turned") fd5 F5 (He.glo_ok X G (c2.fact 5 (f := .glo "turned") rfl))
      (He.ga K "renamed") fd6 F6 (He.glo_ok X G (c2.fact 6 (f := .glo "renamed") rfl))
      (He.ga K "_law_draw") fd7 F7 (He.glo_ok X G (c2.fact 7 (f := .glo "_law_draw") rfl))
      (He.ga K "_law_same") fd8 F8 (He.glo_ok X G (c2.fact 8 (f := .glo "_law_same") rfl))
      (He.ga K "_law_signs") fd9 F9 (He.glo_ok X G (c2.fact 9 (f := .glo "_law_signs") rfl))
      (He.ga K "_law_word") fd10 F10 (He.glo_ok X G (c2.fact 10 (f := .glo "_law_word") rfl))
      (He.ga K "_law_rows") fd11 F11 (He.glo_ok X G (c2.fact 11 (f := .glo "_law_rows") rfl))
      (He.ga K "_law_renamed") fd12 F12 (He.glo_ok X G (c2.fact 12 (f := .glo "_law_renamed") rfl))
      (He.ga K "_law_char") fd13 F13 (He.glo_ok X G (c2.fact 13 (f := .glo "_law_char") rfl))
      (He.ga K "_law_bent") fd14 F14 (He.glo_ok X G (c2.fact 14 (f := .glo "_law_bent") rfl))
      (He.ga K "_law_unlike") fd15 F15 (He.glo_ok X G (c2.fact 15 (f := .glo "_law_unlike") rfl))
      (He.ga K "_law_is_group") fd16 F16 (He.glo_ok X G (c2.fact 16 (f := .glo "_law_is_group") rfl))
      (He.ga K "_law_is_alphabet") fd17 F17 (He.glo_ok X G (c2.fact 17 (f := .glo "_law_is_alphabet") rfl))
      (He.ga K "_law_strange") fd18 F18 (He.glo_ok X G (c2.fact 18 (f := .glo "_law_strange") rfl))
      (He.ga K "_law_signs_told") fd19 F19 (He.glo_ok X G (c2.fact 19 (f := .glo "_law_signs_told") rfl))
      (He.ga K "_law_group_told") fd20 F20 (He.glo_ok X G (c2.fact 20 (f := .glo "_law_group_told") rfl))
      (He.ga K "_law_row_told") fd21 F21 (He.glo_ok X G (c2.fact 21 (f := .glo "_law_row_told") rfl))
      (He.ga K "_law_raised") fd22 F22 (He.glo_ok X G (c2.fact 22 (f := .glo "_law_raised") rfl))
      (He.ga K "_law_texts_kept") fd23 F23 (He.glo_ok X G (c2.fact 23 (f := .glo "_law_texts_kept") rfl))
      (He.ga K "_law_rows_kept") fd24 F24 (He.glo_ok X G (c2.fact 24 (f := .glo "_law_rows_kept") rfl))
      (He.ga K "_law_row_changed") fd25 F25 (He.glo_ok X G (c2.fact 25 (f := .glo "_law_row_changed") rfl))
      (He.ga K "_law_new") fd26 F26 (He.glo_ok X G (c2.fact 26 (f := .glo "_law_new") rfl))
      (He.ga K "rows_up_to") fd27 F27 (He.glo_ok X G (c2.fact 27 (f := .glo "rows_up_to") rfl))
      (He.ga K "law") fd28 F28 (He.glo_ok X G (c2.fact 28 (f := .glo "law") rfl)), rfl⟩
open PySem.W PySem.Calls
abbrev rwS : PySem.W.OpenLaw := PySem.Challenge.rw_stillgrows_k00_words_and_their_refusals
theorem ba_law {P : Program} {K : KF} {mg : Str → Option Value} (G : Gd P K mg) (s : Shared) (v : Value) : BindsTo s G.d_law ⟨[v], []⟩ [("_law_script", v)] := L2.FunD.bindsA (ps := ["_law_script"]) G.F_law (fun _ _ _ _ _ _ us hl => match us, hl with | [_], _ => rfl) s [v] rfl
theorem finS {w : World} {mg : Str → Option Value} {fa : Addr} {h : Heap} (Y : ∃ K : KF, K.In h ∧ SaysS prL faS fnS errs giS K) (G : h.Ns mainGlobals mg) (hmg : mg ("law" : PySem.Str) = some (.ref fa)) :
    ∃ (K : PySem.W.Frag) (fd : FuncData) (sp : Sp), K.In h ∧ (∀ (s : Shared) (u : Value), BindsTo s fd ⟨[u], []⟩ [("_law_script", u)]) ∧
      (∀ (H : Hp) (a : Addr) (ns : List Int), ns.length ≤ 63 → Only H → SqL K H a (ns.map V.int) → sp [.ref a] H (fun v _ => v = .bl true) fun _ _ _ => False) ∧
      ∀ base : Heap, K.In base → base.Ns mainGlobals mg → FnOk prL w K mg base CX0 10 fa fd ["_law_script"] sp := by
  obtain ⟨K, KX, c⟩ := Y
  obtain ⟨D, eD⟩ := gdS (P := prL) KX G c
  have e2 := hmg.symm.trans D.g_law
  have e3 : fa = D.f_law := by
    injection e2 with e4
    injection e4
  subst e3
  exact ⟨K, D.d_law, sp_law K, KX, fun s v => ba_law D s v, fun H a ns hl _ hS => ⟨a, ns, true, rfl, hS, law_true ns hl, fun _ => rfl⟩, fun base _ _ => ok_law (P := prL) (w := w) (base := base) D⟩
theorem he1 : opening (PySem.W.OpenLaw.row rwS).prog = PySem.W.plainProg (PySem.W.OpenLaw.row rwS).prog.main.scope.names := by kernel_rfl
theorem he2 (s : Shared) : fenceModules? (PySem.W.OpenLaw.row rwS).prog s = some s := by kernel_rfl
theorem he3 : PySem.W.defOf (PySem.W.view (PySem.W.OpenLaw.row rwS).prog [36]) (PySem.W.OpenLaw.row rwS).name = some (HandSHeadRun.topDef (PySem.W.OpenLaw.row rwS).prog 36, []) := by kernel_rfl
theorem he4 : (PySem.W.OpenLaw.row rwS).prog.theDef (PySem.W.OpenLaw.row rwS).name = some ((HandSHeadRun.topDef (PySem.W.OpenLaw.row rwS).prog 36).params, (HandSHeadRun.topDef (PySem.W.OpenLaw.row rwS).prog 36).body, (HandSHeadRun.topDef (PySem.W.OpenLaw.row rwS).prog 36).scope) := by kernel_rfl
theorem he5 : kwWritten? (HandSHeadRun.topDef (PySem.W.OpenLaw.row rwS).prog 36).params.kwonlyargs (HandSHeadRun.topDef (PySem.W.OpenLaw.row rwS).prog 36).params.kw_defaults = some [] := by kernel_rfl
theorem he6 : (PySem.W.OpenLaw.row rwS).wellSaid = true := by decide +kernel
theorem he7 : (PySem.W.chainsOk (PySem.W.view (PySem.W.OpenLaw.row rwS).prog [36]) && PySem.W.opensWell (PySem.W.OpenLaw.row rwS).prog && (PySem.W.frees (PySem.W.OpenLaw.row rwS).toRowW && (PySem.W.OpenLaw.row rwS).within.isEmpty)) = true := by decide +kernel
theorem he8 : (HandSHeadRun.topDef (PySem.W.OpenLaw.row rwS).prog 36).name = ("law" : PySem.Str) := by kernel_rfl
theorem he9 : (HandSHeadRun.topDef (PySem.W.OpenLaw.row rwS).prog 36).params.defaults = [] := by kernel_rfl
theorem he10 : (PySem.W.OpenLaw.row rwS).prog.bare := ⟨rfl, rfl, rfl, rfl, rfl, by decide +kernel⟩
end Sg
open PySem PySem.W PySem.Calls PyProof.Rows
theorem PySem.Challenge.cw_stillgrows_k00_words_and_their_refusals_holds : PySem.Challenge.rw_stillgrows_k00_words_and_their_refusals.Holds := by
  w_on; o_law
  refine HandSHeadRun.head_any (r := OpenLaw.row PySem.Challenge.rw_stillgrows_k00_words_and_their_refusals) (q := view (OpenLaw.row PySem.Challenge.rw_stillgrows_k00_words_and_their_refusals).prog [36]) (H := Sg.hkS) (ob := Sg.obS) (M := 4000) (loose := Sg.looseS) (d := HandSHeadRun.topDef (OpenLaw.row PySem.Challenge.rw_stillgrows_k00_words_and_their_refusals).prog 36) (kwd := []) Sg.obS_eq
    Sg.he1 Sg.he2 Sg.runS Sg.he3 Sg.he4 Sg.he5 (by rfl) (by first | assumption | exact Sg.he6) Sg.he7 Sg.he10 ?hw ?hc
  case hw => w_witness2
  case hc =>
    refine L2.walk_ofE (l := PySem.Challenge.rw_stillgrows_k00_words_and_their_refusals) (n := 63) (k := 10) (x := "_law_script") (CX := L2.CX0) rfl (by decide) Sg.he9 ⟨rfl, by decide, by decide⟩ ?F (fun _ _ _ _ z => z)
    intro w mg fa h Y G hmg0
    have hmg : mg ("law" : PySem.Str) = some (.ref fa) := by
      rw [← Sg.he8]
      exact hmg0
    exact Sg.finS Y G hmg
