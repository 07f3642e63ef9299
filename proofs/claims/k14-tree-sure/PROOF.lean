import PyProof.Rows.All
import Wide.All
import OpenK.AllK
import Wide.FinOn
import KE.KExcSuper
import HandS.ForMost
import HandS.ForExc
import HandS.ExcInit
import HandS.ExcField
import HandS.ExcIs
import HandS.IsInst
import KE.KExcIs
import HandS.Nested
import HandS.HotCalls
import KE.GoesEnum
import KE.GoesMore
import HandS.Walk
import KE.KTupSum
import HandS.Comp
import HandS.Codes
import HandS.CallSlots
import HandS.Defaults
import HandS.MakeKw
import HandS.Wide
import HandS.Evl
import HandS.TupAny
import HandS.SlotsOwn
import HandS.OwnEq
import HandS.MakeKwOnly
import HandS.TupMul
import HandS.Conv
import HandS.Style
import PySem.Challenge.RW_pebblesreach_k14_tree_sure
set_option Elab.async false
set_option linter.all false
set_option maxRecDepth 100000
set_option maxHeartbeats 4000000
/-! Errors of the package: __init__ begins with super().__init__(..); isinstance and fields of a caught error; calls within an except suite. -/
namespace SI
open PySem PySem.Spec PyProof.Rows L2 NdefX

/-! ### super().__init__(e0), then the rest -/
structure SupF (P : Program) (K : PySem.W.Frag) (mg : Str → Option Value) (C fI : Addr) (qual : Str) (params : Arguments) (e0 : Expr) (rest : List Stmt) (scope : Scope) (p0 p1 p2 p3 p4 : Pos) (fd : FuncData) : Prop where
  ex : ∃ (oc : Value) (od : Option Addr) (kV doc pm : Value) (an : Option Addr) (ct : Value) (osl : Array (Option Value)) (cc cda : Addr)
      (q1 : Value) (q2 : Option Addr) (q3 : Array (Option Value)) (r1 : Value) (r2 : Option Addr) (vs : Array Value) (r3 : Array (Option Value)) (file : Str) (tf : Tok),
    fd = PySem.W.fnX "__init__" qual params (.Expr (.Call (.Attribute (.Call (.Name "super" p0) [] [] p1) "__init__" p2) [e0] [] p3) p4 :: rest) scope [("__class__", cc)] .none kV doc pm an (.ref cda) ct ∧
    K.lookup fI = some ⟨oc, od, .func fd, osl⟩ ∧ PySem.W.codeIn K (.ref cda) qual = true ∧
    K.lookup cda = some ⟨r1, r2, .fields vs, r3⟩ ∧ vs[2]? = some (.str file tf) ∧ (P.main.file == file) = true ∧
    K.lookup cc = some ⟨q1, q2, .cell (some (.ref C)), q3⟩
  oex : OexC K C
  self : PySem.W.mroIn K C (.ref C) = some true
  sup : PySem.W.ks_superIn K C C "__init__" = some (some (.builtin "ValueError.__init__"))
  sub : PySem.W.subIn K (.ref C) (.type "ValueError") = some true
  mg0 : mg "super" = none
  any : PySem.W.nsIn K cStatics "thirdparty.any" = some none
  top : (P.main.scope.names.lookup ("super" : Str)).isSome = false

/-- ValueError.__init__ bound to the exception at x (the object at u), called -/
theorem call_mw {prog : Program} {w : World} {A : Around} {E : Value → Shared → Prop} {h : Heap} {g : Array GenState} {d : Drawn} {t : Nat} {os : OsState}
    {nm q : Str} {C N : Addr} {bs bm : List Value} {hdct : Bool} {sn : List Str} {sub : List Value} {ab : Bool} {col : Option Bool} {dd : Option Addr} {k0 k1 k2 k3 k5 : Option Value}
    {u x t0 : Addr} {rest : List Value} {Q : Value → Shared → Prop}
    (hC : h.get? C = some (excClassObj nm q C N bs bm hdct sn sub ab col dd k0 k1 k2 k3 k5 "ValueError.__new__")) (hx : h.get? x = some (PySem.HandSPX.excO C t0)) (hu : h.get? u = some (PySem.W.kxs_mw "ValueError.__init__" x)) (hz : rest.length ≤ sizeLine)
    (hq : ∀ h' t1, (∀ b o, b ≠ x → h.get? b = some o → h'.get? b = some o) → h'.get? x = some (PySem.HandSPX.excO C t1) → Q .none ⟨h', g, d, t, os⟩) :
    wpAny (model prog w) A (call (.ref u) rest) Q E ⟨h, g, d, t, os⟩ := by
  refine wpAny_call (codeAny_of_tree ?_)
  show wpAny _ A.in1 (callAny (.ref u) ⟨rest, []⟩) _ _ _
  simp only [callAny]
  refine wpAny_bind (wpAny_load hu ?_)
  simp only [PySem.W.kxs_mw, (by decide : (Value.type "method-wrapper" == Value.type "method" || Value.type "method-wrapper" == Value.type "builtin_function_or_method" || Value.type "method-wrapper" == Value.type "method-wrapper") = true), if_true]
  refine PySem.W.KFB.if_so (by decide) ?_
  refine wpAny_bind (PySem.W.check_bound_init F.excBase_ValueError.toExcCallFacts hC hx rfl ?_)
  refine wpAny_bind (wpAny_pure (wpAny_pure ?_))
  refine ⟨plainId_quiet F.excBase_ValueError.init.plain _, codeAny_builtin F.excBase_ValueError.initEntry ?_⟩
  rw [Around.under_plainId F.excBase_ValueError.init.plain _]
  wp_walk
  refine hq _ h.objs.size (fun b o hb ho => ?_) ?_
  · rw [Heap.get?_update_other _ _ (Ne.symm hb)]
    exact Heap.get?_push_of_some _ ho
  · rw [Heap.get?_update_self _ (Heap.get?_push_of_some _ hx) rfl]
    rfl

section
variable {CX : CXT} {P : Program} {w : World} {K : PySem.W.Frag} {mg : Str → Option Value} {base : Heap} {N ps : List Str} {k : Nat} {sp : Sp} {C fI : Addr} {qual : Str} {params : Arguments} {e0 : Expr} {rest : List Stmt} {scope : Scope} {p0 p1 p2 p3 p4 : Pos} {fd : FuncData}
def nf (qual : Str) (params : Arguments) (body : List Stmt) (scope : Scope) (cc cda : Addr) : NF := ⟨"__init__", qual, params, body, scope, [("__class__", cc)], cda⟩
theorem sup_ok (T : SupF P K mg C fI qual params e0 rest scope p0 p1 p2 p3 p4 fd) (S : NScope N ps ["__class__"] scope) {ar : Arg} (hp : (params.posonlyargs ++ params.args).head? = some ar) (hp0 : ps[0]? = some ar.arg) (hks : scope.names.lookup ("super" : Str) = some .globalImplicit)
    (hst : ∀ env : Env, starEach [e0] env = (false, eval e0 env) :: starEach [] env)
    (hcall : ∀ env : Env, eval (.Call (.Attribute (.Call (.Name "super" p0) [] [] p1) "__init__" p2) [e0] [] p3) env = (do
      let ov ← attributeBase (.Call (.Name "super" p0) [] [] p1) "__init__" env (eval (.Call (.Name "super" p0) [] [] p1) env)
      standAt p2.atName
      let (f, first) ← holding [ov] (getMethod ov "__init__" (do return (← importBound (.Call (.Name "super" p0) [] [] p1) env).getD true))
      callWith p3 f first (backTo p3 (starEach [e0] env)) [])) (len : ∀ vs H Q E, sp vs H Q E → vs.length = ps.length)
    (hbody : ∀ (X : Cx) (H : Hp) (vs : List V) (Q : VK) (E : XK), X.N = N → X.K = K → X.mg = mg → X.env.scope = scope → X.calm = true → sp vs H Q E →
      ∃ (a : Addr) (ta : TA) (t : TS), vs[0]? = some (.ref a) ∧ H a = some (exo a C none) ∧ PA X [e0] ta ∧ PSs X rest t ∧
        ta (startF N vs [some (.ref C)]) H (fun ws H1 => ws.length ≤ sizeLine ∧ H1 a = some (exo a C none) ∧ t { nx := fun _ H' => Q .non H', rt := Q } (startF N vs [some (.ref C)]) H1)) :
    FnOk P w K mg base CX (k + 1) fI fd ps sp := by
  obtain ⟨oc, od, kV, doc, pm, an, ct, osl, cc, cda, q1, q2, q3, r1, r2, vs2, r3, file, tf, rfl, lk, hcd, hcda, hfile, hmain, hcc⟩ := T.ex
  refine ⟨len, fun A outer s H args us vs Q E hr e0' hb r hsp => ?_⟩
  have hl := len _ _ _ _ hsp
  have KX : K.In s.heap := e0'.mod.kin.keeps fun b o e => (e0'.bs b o e).1
  have lim : s.heap.NoLimit := e0'.mod.nolimit.keeps fun b o e => (e0'.bs b o e).1
  have hcH : H cc = none := (e0'.bs cc _ (e0'.mod.kin _ _ hcc)).2
  have CA : CellsAt [(("__class__" : Str), cc)] ["__class__"] [some (V.ref C)] s.heap H := {
    len := rfl
    all := fun y c hy => by
      have e : (y, c) ∈ [(("__class__" : Str), cc)] := PySem.mem_of_lookup hy
      simp only [List.mem_singleton, Prod.mk.injEq] at e
      obtain ⟨_, rfl⟩ := e
      exact ⟨hcH, _, _, KX _ _ hcc, rfl⟩
    inj := fun x y c hx hy => by
      have ex : (x, c) ∈ [(("__class__" : Str), cc)] := PySem.mem_of_lookup hx
      have ey : (y, c) ∈ [(("__class__" : Str), cc)] := PySem.mem_of_lookup hy
      simp only [List.mem_singleton, Prod.mk.injEq] at ex ey
      rw [ex.1, ey.1]
    has := fun i y hy => by
      cases i with
      | succ j => simp at hy
      | zero =>
        have e : y = "__class__" := by simpa using hy.symm
        subst e
        refine ⟨cc, by rfl, fun v hv => ?_⟩
        have e : v = V.ref C := by simpa using hv.symm
        subst e
        exact ⟨.ref C, rfl, _, KX _ _ hcc, rfl⟩ }
  refine ks_codeAny_call_defAt (binds := ps.zip us) hr.depth (KX _ _ lk) rfl lim (PySem.W.codeRec_of KX hcd) rfl hb S.nocell (fun y hy => ?_) (fun h₁ hns kp => ?_) S.co S.gen S.kind
  · obtain ⟨n, v⟩ := y
    exact S.par n (List.of_mem_zip hy).1
  let body0 : List Stmt := .Expr (.Call (.Attribute (.Call (.Name "super" p0) [] [] p1) "__init__" p2) [e0] [] p3) p4 :: rest
  let X : Cx := ncx CX P w K mg base N (nf qual params body0 scope cc cda) fI A outer s H E
  have I : Inv X [] (startF N vs [some (.ref C)]) H { s with heap := h₁, toks := s.toks + (ps.zip us).length } := inv_startN (F := nf qual params body0 scope cc cda) S hr.hd e0' hl r CA hns kp
  obtain ⟨a, ta, t, hv0, hHa, hpa, hps, hq⟩ := hbody X H vs Q E rfl rfl rfl rfl rfl hsp
  obtain ⟨ua, hua, rua⟩ := r.get hv0
  obtain rfl : ua = Value.ref a := rua
  obtain ⟨nm, q, N', bs, bm, sn, sub, ab, col, dd, k0, k1, k2, k3, k5, hC, hbm⟩ := T.oex.cls
  have hcl : PySem.W.clsIn K C = some { name := nm, bases := bs, mro := .ref C :: bm, ns := N', qualname := q, hasDict := true, slotNames := sn, subclasses := sub, abstract := ab, collection := col, hasDel := false } := by unfold PySem.W.clsIn; rw [hC] <;> rfl
  have X1 : K.In h₁ := KX.keeps kp
  have hkfree : scope.names.lookup ("__class__" : Str) = some .free := S.frk _ (by simp)
  have ndP : ps.Nodup := by
    have q := S.nd.sublist (List.take_sublist (ps.length + 1) N)
    have e := S.pre
    simp only [List.length_singleton] at e
    rw [e] at q
    exact (List.nodup_append.mp q).1
  refine ks_wpAt_execs_cons (ks_wpAt_Expr_any (ks_wpAt_MethodCall (ks_wpAt_super_base hks hkfree (by decide) rfl (X1 _ _ lk) rfl hp rfl (X1 _ _ hcda) rfl hfile hmain T.top ?_) (hcall _)) I.quiet rfl)
  obtain ⟨mb, hb1, hb2⟩ := I.mod.blt
  refine PySem.W.ks_loadName_global S.kind hks (Calls.loadGlobal_builtin (I.mod.glob.keeps I.bk) T.mg0 (hb1.keeps I.bk) ((hb2 "super" (by decide)).trans (by decide +kernel)) ⟨rfl, ?_⟩)
  refine wpAny_loadName_free S.kind hkfree (by rfl) ⟨_, X1 _ _ hcc, rfl⟩ ?_
  have hka : scope.names.lookup ar.arg = some .local := S.par _ (List.mem_of_getElem? hp0)
  refine wpAny_loadName_local S.kind hka hns (zip_look ndP hp0 hua) ?_
  have hD := X1 _ _ hC
  refine ks_wpAny_isType_cls hD rfl ⟨rfl, ?_⟩
  obtain ⟨t1, hx⟩ := exo_at I.hok hHa
  refine ks_wpAny_call_super hD rfl hx rfl (fun c z => by cases z) (PySem.W.looks_mroIn X1 T.self) (fun h2 hso k2 => ?_)
  have X2 : K.In h2 := X1.keeps k2
  have hx2 := k2 _ _ hx
  have IA : PySem.W.InstAt h2 a { cls := .ref C, dict := none, data := .fields #[.ref t1, .none, .none, .none, .bool false, .none] } C none := ⟨hx2, rfl, rfl, trivial⟩
  have hsup : PySem.W.alongIn K "__init__" (((Value.ref C :: bm).dropWhile (· != .ref C)).drop 1) = some (some (.builtin "ValueError.__init__")) := by
    have z := T.sup
    unfold PySem.W.ks_superIn at z
    rw [hcl] at z
    exact z
  refine PySem.W.kxs_getMethod PySem.W.kxs_ValueError hso (PySem.W.looks_opaque X2 T.any) (l₀ := Value.ref C :: bm) (fun A Q E s k q => wpAny_bind ((PySem.W.looks_clsIn X2 hcl) A _ E s k (wpAny_pure q))) rfl X2 hsup (IA.type.andThen (PySem.W.looks_subIn X2 T.sub)) (PySem.W.ks_ne X2 IA hcl) (by decide +kernel) ?_
  have I2 : Inv X [] (startF N vs [some (.ref C)]) H { s with heap := h2, toks := s.toks + (ps.zip us).length } := I.kept (t' := s.toks + (ps.zip us).length) k2
  have I3 : Inv X [] (startF N vs [some (.ref C)]) H { s with heap := h2.push (PySem.W.kxs_mw "ValueError.__init__" a), toks := s.toks + (ps.zip us).length + 1 } := I2.kept (t' := s.toks + (ps.zip us).length + 1) fun b o z => Heap.get?_push_of_some _ z
  have I4 : Inv X [(h2.objs.size, PySem.W.kxs_mw "ValueError.__init__" a)] (startF N vs [some (.ref C)]) H { s with heap := h2.push (PySem.W.kxs_mw "ValueError.__init__" a), toks := s.toks + (ps.zip us).length + 1 } :=
    ⟨I3.ok, I3.os, I3.bare, I3.base, I3.loc, I3.cell, I3.free, I3.freeC, fun p hp => by
      have e : p = (h2.objs.size, PySem.W.kxs_mw "ValueError.__init__" a) := by
        have z : p ∈ ([] : List (Addr × Obj)) ++ [(h2.objs.size, PySem.W.kxs_mw "ValueError.__init__" a)] := hp
        simpa using z
      subst e
      exact ⟨Heap.get?_push_at rfl rfl, I2.hok.fresh (Nat.le_refl _), Nat.ne_of_gt I2.lt, I2.nofs (Nat.le_refl _), fun v z => by cases z⟩, I3.hok, I3.len⟩
  have run := hpa.run p3 _ _ _ _ _ I4 hq
  refine PySem.W.kxs_callWith (i := "ValueError.__init__") (x := a) ?_ ?_
  · rw [hst]
    rfl
  · have e1 := hst X.env
    rw [hst]
    rw [e1] at run
    refine Calls.evalArgs_plain (thn run fun us2 s1 hh => ?_)
    obtain ⟨ws, H1, I5, r5, hz, hx5, ht⟩ := hh
    have pu := I5.pin (h2.objs.size, PySem.W.kxs_mw "ValueError.__init__" a) (by simp)
    refine ⟨pu.1, ?_⟩
    obtain ⟨t5, ho5⟩ := exo_at I5.hok hx5
    obtain ⟨hp5, g5, d5, tk5, os5⟩ := s1
    have hC5 : hp5.get? C = _ := I5.kIn _ _ hC
    refine call_mw hC5 ho5 pu.1 (by show us2.length ≤ sizeLine; rw [← Paired.length r5]; exact hz) fun h6 t6 k6 hx6 => ?_
    have I6 := I5.write (t' := tk5) (x := a) (e := a) (o := exo a C none) (by rw [hx5]; exact True.intro) (.inl rfl) k6 ⟨_, hx6⟩ (exo_ok hx6)
    have eu : upd H1 a (exo a C none) = H1 := by
      funext b
      by_cases hb : b = a
      · rw [hb, upd_same, hx5]
      · rw [upd_ne hb]
    rw [eu] at I6
    have I7 : Inv X [] (startF N vs [some (.ref C)]) H1 ⟨h6, g5, d5, tk5, os5⟩ := ⟨I6.ok, I6.os, I6.bare, I6.base, I6.loc, I6.cell, I6.free, I6.freeC, fun p hp => absurd (show p ∈ ([] : List (Addr × Obj)) ++ [] from hp) (by simp), I6.hok, I6.len⟩
    refine PySem.wpAt_of_wpAny (wpAny_mono (hps.run [] _ _ _ _ I7 ht) (fun fl s' hs => ?_) fun e s' hs => hs)
    have fin : ∀ {σ' : L2.St} {H' : Hp} {v : V} {u : Value}, Inv X [] σ' H' s' → L2.RelV v u → Q v H' → CE outer P w H s Q u s' :=
      fun {σ' H' v u} J rv q => ⟨v, H', J.os, J.bare, J.base, J.hok, rv, q⟩
    cases fl with
    | ret u =>
      obtain ⟨v, σ', H', J, rv, q⟩ := hs
      exact fin J rv q
    | next =>
      obtain ⟨σ', H', J, q⟩ := hs
      exact fin (v := V.non) (u := Value.none) J rfl q
    | brk => exact hs.choose_spec.choose_spec.2.elim
    | cont => exact hs.choose_spec.choose_spec.2.elim
end

/-! ### __init__ with one field, with two fields -/
section
variable {CX : CXT} {P : Program} {w : World} {K : PySem.W.Frag} {mg : Str → Option Value} {base : Heap} {k : Nat} {C fI : Addr} {qual : Str} {params : Arguments} {e0 : Expr} {scope : Scope} {p0 p1 p2 p3 p4 : Pos} {fd : FuncData} {x y f g : Str} {a1 a2 a3 a4 b1 b2 b3 b4 pe pf pg ph pi : Pos} {z z2 : Str} {j j2 : Nat} {ar : Arg}
/-- the call super().__init__(e0), by its places -/
abbrev SupCall (e0 : Expr) (p0 p1 p2 p3 : Pos) : Prop := ∀ env : Env, eval (.Call (.Attribute (.Call (.Name "super" p0) [] [] p1) "__init__" p2) [e0] [] p3) env = (do
      let ov ← attributeBase (.Call (.Name "super" p0) [] [] p1) "__init__" env (eval (.Call (.Name "super" p0) [] [] p1) env)
      standAt p2.atName
      let (f, first) ← holding [ov] (getMethod ov "__init__" (do return (← importBound (.Call (.Name "super" p0) [] [] p1) env).getD true))
      callWith p3 f first (backTo p3 (starEach [e0] env)) [])
def spE1 (C : Addr) (f : Str) : Sp := fun vs H Q _ => ∃ (a : Addr) (y : V), vs = [.ref a, y] ∧ H a = some (exo a C none) ∧ ∀ d, H d = none → d ≠ a → Q .non (upd (upd H d (exd d [(f, y)])) a (exo a C (some d)))
def spE2 (C : Addr) (f g : Str) (ok : V → Prop) : Sp := fun vs H Q _ => ∃ (a : Addr) (y z : V), vs = [.ref a, y, z] ∧ ok y ∧ H a = some (exo a C none) ∧
  ∀ d, H d = none → d ≠ a → Q .non (upd (upd (upd H d (exd d [(f, y)])) a (exo a C (some d))) d (exd d [(g, z), (f, y)]))
theorem err1_ok (T : SupF P K mg C fI qual params (.Constant (.str z) j pe) [.Assign [.Attribute (.Name "self" a1) f a2] (.Name x a3) a4] scope p0 p1 p2 p3 p4 fd) (S : NScope ["self", x, "__class__"] ["self", x] ["__class__"] scope)
    (hp : (params.posonlyargs ++ params.args).head? = some ar) (har : ar.arg = "self") (hks : scope.names.lookup ("super" : Str) = some .globalImplicit) (hno : PySem.W.findIn K (.ref C) f = some none) (hcall : SupCall (.Constant (.str z) j pe) p0 p1 p2 p3)
    (hx1 : (x == ("__debug__" : Str)) = false) (hx2 : (x == ("__classdict__" : Str)) = false) :
    FnOk P w K mg base CX (k + 1) fI fd ["self", x] (spE1 C f) := by
  refine sup_ok T S hp (by rw [har] <;> rfl) hks (fun _ => rfl) hcall (fun vs H Q E h => ?_) fun X H vs Q E eN eK em es ec h => ?_
  · obtain ⟨a, y, rfl, _⟩ := h
    rfl
  · obtain ⟨a, y, rfl, ha, q⟩ := h
    subst eK
    have n0 : X.N[0]? = some ("self" : Str) := by rw [eN] <;> rfl
    have n1 : X.N[1]? = some x := by rw [eN] <;> rfl
    have v0 : Vis X.env.scope "self" := by rw [es]; exact .inl (S.par _ (by simp))
    have v1 : Vis X.env.scope x := by rw [es]; exact .inl (S.par _ (by simp))
    refine ⟨a, _, _, rfl, ha, pa_cons pe_str pa_nil, pss_one (ps_ost (pv 0 n0 v0) (pe_var n1 v1 hx1 hx2)), ?_⟩
    refine ⟨by show 1 ≤ sizeLine; decide, ha, ?_⟩
    exact ⟨_, rfl, _, rfl, a, C, rfl, T.oex, hno, .inl ⟨ha, fun dx n ne => q dx n ne⟩⟩
theorem err2_ok (T : SupF P K mg C fI qual params (.Constant (.str z) j pe) [.Assign [.Attribute (.Name "self" a1) f a2] (.Name x a3) a4, .Assign [.Attribute (.Name "self" b1) g b2] (.Name y b3) b4] scope p0 p1 p2 p3 p4 fd)
    (S : NScope ["self", x, y, "__class__"] ["self", x, y] ["__class__"] scope)
    (hp : (params.posonlyargs ++ params.args).head? = some ar) (har : ar.arg = "self") (hks : scope.names.lookup ("super" : Str) = some .globalImplicit) (hno : PySem.W.findIn K (.ref C) f = some none) (hno2 : PySem.W.findIn K (.ref C) g = some none) (hcall : SupCall (.Constant (.str z) j pe) p0 p1 p2 p3)
    (hx1 : (x == ("__debug__" : Str)) = false) (hx2 : (x == ("__classdict__" : Str)) = false) (hy1 : (y == ("__debug__" : Str)) = false) (hy2 : (y == ("__classdict__" : Str)) = false) :
    FnOk P w K mg base CX (k + 1) fI fd ["self", x, y] (spE2 C f g fun _ => True) := by
  refine sup_ok T S hp (by rw [har] <;> rfl) hks (fun _ => rfl) hcall (fun vs H Q E h => ?_) fun X H vs Q E eN eK em es ec h => ?_
  · obtain ⟨a, y, z, rfl, _⟩ := h
    rfl
  · obtain ⟨a, u, v, rfl, _, ha, q⟩ := h
    subst eK
    have n0 : X.N[0]? = some ("self" : Str) := by rw [eN] <;> rfl
    have n1 : X.N[1]? = some x := by rw [eN] <;> rfl
    have n2 : X.N[2]? = some y := by rw [eN] <;> rfl
    have v0 : Vis X.env.scope "self" := by rw [es]; exact .inl (S.par _ (by simp))
    have v1 : Vis X.env.scope x := by rw [es]; exact .inl (S.par _ (by simp))
    have v2 : Vis X.env.scope y := by rw [es]; exact .inl (S.par _ (by simp))
    refine ⟨a, _, _, rfl, ha, pa_cons pe_str pa_nil, pss_cons (ps_ost (pv 0 n0 v0) (pe_var n1 v1 hx1 hx2)) (pss_one (ps_ost (pv 0 n0 v0) (pe_var n2 v2 hy1 hy2))), ?_⟩
    refine ⟨by show 1 ≤ sizeLine; decide, ha, ?_⟩
    exact ⟨_, rfl, _, rfl, a, C, rfl, T.oex, hno, .inl ⟨ha, fun dx n ne => ⟨_, rfl, _, rfl, a, C, rfl, T.oex, hno2, .inr ⟨dx, _, upd_same, (by rw [upd_ne ne, upd_same]), (by show 1 ≤ 900; decide), q dx n ne⟩⟩⟩⟩
/-- BadCount: the text is made of the first argument -/
theorem errB_ok (T : SupF P K mg C fI qual params (.BinOp (.BinOp (.Constant (.str z) j pe) .Add (.Name x pf) pg) .Add (.Constant (.str z2) j2 ph) pi)
      [.Assign [.Attribute (.Name "self" a1) f a2] (.Name x a3) a4, .Assign [.Attribute (.Name "self" b1) g b2] (.Name y b3) b4] scope p0 p1 p2 p3 p4 fd)
    (S : NScope ["self", x, y, "__class__"] ["self", x, y] ["__class__"] scope) (hz : z.length ≤ 100) (hz2 : z2.length ≤ 100)
    (hp : (params.posonlyargs ++ params.args).head? = some ar) (har : ar.arg = "self") (hks : scope.names.lookup ("super" : Str) = some .globalImplicit) (hno : PySem.W.findIn K (.ref C) f = some none) (hno2 : PySem.W.findIn K (.ref C) g = some none)
    (hcall : SupCall (.BinOp (.BinOp (.Constant (.str z) j pe) .Add (.Name x pf) pg) .Add (.Constant (.str z2) j2 ph) pi) p0 p1 p2 p3)
    (hx1 : (x == ("__debug__" : Str)) = false) (hx2 : (x == ("__classdict__" : Str)) = false) (hy1 : (y == ("__debug__" : Str)) = false) (hy2 : (y == ("__classdict__" : Str)) = false) :
    FnOk P w K mg base CX (k + 1) fI fd ["self", x, y] (spE2 C f g fun v => ∃ t : Str, v = .str t ∧ t.length ≤ 1000) := by
  refine sup_ok T S hp (by rw [har] <;> rfl) hks (fun _ => rfl) hcall (fun vs H Q E h => ?_) fun X H vs Q E eN eK em es ec h => ?_
  · obtain ⟨a, y, z, rfl, _⟩ := h
    rfl
  · obtain ⟨a, u, v, rfl, ⟨t, rfl, ht⟩, ha, q⟩ := h
    subst eK
    have n0 : X.N[0]? = some ("self" : Str) := by rw [eN] <;> rfl
    have n1 : X.N[1]? = some x := by rw [eN] <;> rfl
    have n2 : X.N[2]? = some y := by rw [eN] <;> rfl
    have v0 : Vis X.env.scope "self" := by rw [es]; exact .inl (S.par _ (by simp))
    have v1 : Vis X.env.scope x := by rw [es]; exact .inl (S.par _ (by simp))
    have v2 : Vis X.env.scope y := by rw [es]; exact .inl (S.par _ (by simp))
    refine ⟨a, _, _, rfl, ha, pa_cons (pe_op op_add_str (pe_op op_add_str pe_str (pe_var n1 v1 hx1 hx2)) pe_str) pa_nil, pss_cons (ps_ost (pv 0 n0 v0) (pe_var n1 v1 hx1 hx2)) (pss_one (ps_ost (pv 0 n0 v0) (pe_var n2 v2 hy1 hy2))), ?_⟩
    have l1 : z.length + t.length ≤ sizeLine := by rw [sizeLine_eq]; omega
    have l2 : (z ++ t).length + z2.length ≤ sizeLine := by
      have e : (z ++ t).length = z.length + t.length := by simp [PySem.Str.length_append]
      rw [e, sizeLine_eq]; omega
    refine ⟨_, rfl, _, _, rfl, rfl, l1, _, _, rfl, rfl, l2, ?_⟩
    refine ⟨by show 1 ≤ sizeLine; decide, ha, ?_⟩
    exact ⟨_, rfl, _, rfl, a, C, rfl, T.oex, hno, .inl ⟨ha, fun dx n ne => ⟨_, rfl, _, rfl, a, C, rfl, T.oex, hno2, .inr ⟨dx, _, upd_same, (by rw [upd_ne ne, upd_same]), (by show 1 ≤ 900; decide), q dx n ne⟩⟩⟩⟩
end
end SI
set_option maxRecDepth 100000
set_option maxHeartbeats 4000000
namespace SI
open PySem PySem.Spec PyProof.Rows L2 NdefX
/-! ### raising such an error: one reading for all classes -/
def mono (ta : TA) : TA := fun σ H Q => ∃ Q' : List V → Hp → Prop, ta σ H Q' ∧ ∀ vs H1, Q' vs H1 → Q vs H1
theorem pa_mono {X : Cx} {es : List Expr} {ta : TA} (h : PA X es ta) : PA X es (mono ta) := ⟨fun pos pins s σ H Q I ⟨Q', q, m⟩ => thn (h.run pos pins s σ H Q' I q) fun us s1 ⟨vs, H1, I1, r1, q1⟩ => ⟨vs, H1, I1, r1, m vs H1 q1⟩⟩
/-- C(..): the error's own dict is new, it holds the fields -/
def tErr (C : Addr) (mk : List V → List (Str × V) → Prop) (ta : TA) : L2.St → Hp → XK → Prop := fun σ H Q => ta σ H fun vs H1 => ∃ fs, mk vs fs ∧ ∀ d, H1 d = none → Q (.ref C) (some d) (upd H1 d (.xd fs))
theorem err_heap {H1 : Hp} {a d : Addr} {o1 o2 u : HO} (ha : H1 a = none) (hd : H1 d = none) (ne : d ≠ a) : upd (del (upd (upd H1 d o1) a o2) a) d u = upd H1 d u := by
  funext b
  by_cases hb : b = d
  · rw [hb, upd_same, upd_same]
  · rw [upd_ne hb, upd_ne hb]
    by_cases hc : b = a
    · rw [hc, del_same, ha]
    · rw [del_ne hc, upd_ne hc, upd_ne hb]
theorem err_heap2 {H1 : Hp} {a d : Addr} {o1 o2 o3 u : HO} (ha : H1 a = none) (hd : H1 d = none) (ne : d ≠ a) : upd (del (upd (upd (upd H1 d o1) a o2) d o3) a) d u = upd H1 d u := by
  funext b
  by_cases hb : b = d
  · rw [hb, upd_same, upd_same]
  · rw [upd_ne hb, upd_ne hb]
    by_cases hc : b = a
    · rw [hc, del_same, ha]
    · rw [del_ne hc, upd_ne hb, upd_ne hc, upd_ne hb]
theorem upd_comm0 {H1 : Hp} {a d : Addr} {u : HO} (ne : d ≠ a) (o : HO) : upd (upd H1 a o) d u = upd (upd H1 d u) a o := by
  funext b
  by_cases hb : b = d
  · subst hb
    rw [upd_same, upd_ne ne, upd_same]
  · rw [upd_ne hb]
    by_cases hc : b = a
    · rw [hc, upd_same, upd_same]
    · rw [upd_ne hc, upd_ne hc, upd_ne hb]
def mk1 (f : Str) : List V → List (Str × V) → Prop := fun vs fs => ∃ y, vs = [y] ∧ fs = [(f, y)]
def mk2 (f g : Str) (ok : V → Prop) : List V → List (Str × V) → Prop := fun vs fs => ∃ y z, vs = [y, z] ∧ ok y ∧ fs = [(g, z), (f, y)]
section
variable {X : Cx} {CX : CXT} {x f g : Str} {C fI : Addr} {k : Nat} {fd : FuncData} {ps : List Str} {e : Expr} {es : List Expr} {ta : TA} {p pos : Pos} {ok : V → Prop}
theorem pmk_e1 {y : Str} (T : OexC X.K C) (iC : PySem.W.findIn X.K (.ref C) "__init__" = some (some (.ref fI))) (tI : PySem.W.typeIn X.K (.ref fI) = some (.type "function"))
    (F1 : FnOk X.prog X.w X.K X.mg X.base CX k fI fd ["self", y] (spE1 C f)) (hr : Room (k + 1) X.A) (hb : Binds X.K fd ["self", y] []) (hx : Passes CX X (fun _ _ _ => False)) (hg : Gl X x) (hm : X.mg x = some (.ref C)) (ha : PA X (e :: es) ta)
    (hdb : (x == ("__debug__" : Str)) = false := by decide) (he : starEach (e :: es) X.env = (false, eval e X.env) :: starEach es X.env := by rfl) (hpl : (backTo pos (starEach es X.env)).any (·.1) = false := by rfl) :
    PMk X (.Call (.Name x p) (e :: es) [] pos) (tErr C (mk1 f) ta) := by
  have R := pmk_oex (pos := pos) (p := p) T iC tI F1 hr hb .nil hx hg hm (pa_mono ha) hdb he hpl
  intro pins s σ H Q I h
  refine R pins s σ H Q I ⟨_, h, ?_⟩
  rintro vs H1 ⟨fs, ⟨y, rfl, rfl⟩, q⟩
  refine ⟨by show 1 ≤ 1000; decide, fun a na => ?_⟩
  refine ⟨a, y, rfl, upd_same, fun d hd ne => ⟨rfl, d, [(f, y)], upd_same, by rw [upd_ne ne, upd_same], ?_, ?_⟩⟩
  · rw [upd_ne ne] at hd
    exact hd
  · have hd' : H1 d = none := by
      rw [upd_ne ne] at hd
      exact hd
    have e1 : upd (del (upd (upd (upd H1 a (exo a C none)) d (exd d [(f, y)])) a (exo a C (some d))) a) d (HO.xd [(f, y)]) = upd H1 d (.xd [(f, y)]) := by
      rw [upd_comm0 ne, upd_upd]
      exact err_heap na hd' ne
    rw [e1]
    exact q d hd'
theorem pmk_e2 {y z : Str} (T : OexC X.K C) (iC : PySem.W.findIn X.K (.ref C) "__init__" = some (some (.ref fI))) (tI : PySem.W.typeIn X.K (.ref fI) = some (.type "function"))
    (F1 : FnOk X.prog X.w X.K X.mg X.base CX k fI fd ["self", y, z] (spE2 C f g ok)) (hr : Room (k + 1) X.A) (hb : Binds X.K fd ["self", y, z] []) (hx : Passes CX X (fun _ _ _ => False)) (hg : Gl X x) (hm : X.mg x = some (.ref C)) (ha : PA X (e :: es) ta)
    (hdb : (x == ("__debug__" : Str)) = false := by decide) (he : starEach (e :: es) X.env = (false, eval e X.env) :: starEach es X.env := by rfl) (hpl : (backTo pos (starEach es X.env)).any (·.1) = false := by rfl) :
    PMk X (.Call (.Name x p) (e :: es) [] pos) (tErr C (mk2 f g ok) ta) := by
  have R := pmk_oex (pos := pos) (p := p) T iC tI F1 hr hb .nil hx hg hm (pa_mono ha) hdb he hpl
  intro pins s σ H Q I h
  refine R pins s σ H Q I ⟨_, h, ?_⟩
  rintro vs H1 ⟨fs, ⟨y, z, rfl, hok, rfl⟩, q⟩
  refine ⟨by show 2 ≤ 1000; decide, fun a na => ?_⟩
  refine ⟨a, y, z, rfl, hok, upd_same, fun d hd ne => ⟨rfl, d, [(g, z), (f, y)], by rw [upd_ne (Ne.symm ne), upd_same], upd_same, ?_, ?_⟩⟩
  · rw [upd_ne ne] at hd
    exact hd
  · have hd' : H1 d = none := by
      rw [upd_ne ne] at hd
      exact hd
    have e1 : upd (del (upd (upd (upd (upd H1 a (exo a C none)) d (exd d [(f, y)])) a (exo a C (some d))) d (exd d [(g, z), (f, y)])) a) d (HO.xd [(g, z), (f, y)]) = upd H1 d (.xd [(g, z), (f, y)]) := by
      rw [upd_comm0 ne (exo a C none), upd_upd]
      exact err_heap2 na hd' ne
    rw [e1]
    exact q d hd'
end

/-! ### a caught error: isinstance, its fields -/
structure ErrC (K : PySem.W.Frag) (C : Addr) : Prop where
  cl : (PySem.W.clsIn K C).isSome = true
  ga : PySem.W.findIn K (.ref C) "__getattribute__" = some (some (.builtin "BaseException.__getattribute__"))
  gg : PySem.W.findIn K (.ref C) "__getattr__" = some none
  exC : PySem.W.subIn K (.ref C) (.type "BaseException") = some true
  hd : PySem.W.hasDictIn K C = true
  ac : PySem.W.findIn K (.ref C) "__class__" = some (some (.builtin "object.__class__"))
  mo : PySem.W.mroIn K C (.type "object") = some true
structure ErrK (K : PySem.W.Frag) : Prop where
  hn : PySem.W.specialIn K (.builtin "object.__class__") "__get__" = some (some (.builtin "getset_descriptor.__get__"))
  ht : PySem.W.takesIn K (.builtin "object.__class__") = some true
def rIsX (K : PySem.W.Frag) (a : Addr) (cls : Value) (d : Option Addr) : List V → Hp → VK → Prop := fun xs H Q => ∃ (D : Addr) (c : V) (cv : Value) (b : Bool), cls = .ref D ∧ ErrC K D ∧ xs = [.ref a, c] ∧ ClsV c cv ∧ PySem.W.kitOne K cls cv = some b ∧
  (∀ dd, d = some dd → ∃ fs, H dd = some (.xd fs)) ∧ Q (.bl b) H
theorem call_isX {X : Cx} {a : Addr} {oe : Obj} {cls : Value} {d : Option Addr} (EK : ErrK X.K) (hp : (a, oe) ∈ X.pn) (hz : Zc cls d oe) (hf : ∃ vs, oe.data = .fields vs) : CallR X (.builtin "isinstance") (rIsX X.K a cls d) := by
  intro pins s σ H xs us Q I r h
  obtain ⟨D, c, cv, b, ecls, C, rfl, hcv, e, hd, q⟩ := h
  cases r with
  | cons rx rr =>
    cases rr with
    | cons rt rr =>
      cases rr
      cases rx
      have ec := hcv.eq rt
      subst ec
      subst ecls
      obtain ⟨hget, _⟩ := I.pin (a, oe) (List.mem_append_left _ hp)
      obtain ⟨vs, hv⟩ := hf
      obtain ⟨od, J⟩ : ∃ od, PySem.W.InstAt s.heap a oe D od := by
        obtain ⟨oc, odi, oda, osl⟩ := oe
        obtain ⟨h1, h2⟩ := hz
        dsimp only at h1 h2 hv
        subst h1 h2 hv
        cases odi with
        | none => exact ⟨none, hget, rfl, rfl, trivial⟩
        | some dd =>
          obtain ⟨fs, hfs⟩ := hd dd rfl
          have hx : ObjOk X.prog X.w H s.heap dd (.xd fs) := I.hok dd _ hfs
          obtain ⟨mA, ⟨o, es, ep, ho, _⟩, _⟩ := hx
          exact ⟨some o, hget, rfl, rfl, ho⟩
      exact PySem.W.kia_one (PySem.W.kitx_exc C.cl C.ga C.gg C.exC C.ac EK.hn EK.ht C.mo) I.kIn J e (fun z => nomatch z) fun tk => ⟨.bl b, H, I.kept (t' := tk) fun _ _ z => z, rfl, q⟩
/-- e.f -/
def tErrF (K : PySem.W.Frag) (a : Addr) (cls : Value) (d : Option Addr) (f : Str) (te : TE) : TE := fun σ H Q => ∃ (C dd : Addr), cls = .ref C ∧ ErrC K C ∧ PySem.W.findIn K (.ref C) f = some none ∧ d = some dd ∧
  te σ H fun x H1 => x = .ref a ∧ ∃ (fs : List (Str × V)) (v : V), H1 dd = some (.xd fs) ∧ fs.lookup f = some v ∧ Q v H1
theorem pe_errF {X : Cx} {a : Addr} {oe : Obj} {cls : Value} {d : Option Addr} {e : Expr} {te : TE} {pos : Pos} {n : Str} (hp : (a, oe) ∈ X.pn) (hz : Zc cls d oe) (hf : ∃ vs, oe.data = .fields vs) (he : PE X e te) (hb : attributeBase e n X.env (eval e X.env) = eval e X.env := by rfl) :
    PE X (.Attribute e n pos) (tErrF X.K a cls d n te) := by
  refine ⟨fun pins s σ H Q I h => ?_⟩
  obtain ⟨C, dd, ec, T, hno, ed, h⟩ := h
  subst ec
  refine attr_of hb (thn (he.run pins s σ H _ I h) fun u s1 hh => ?_)
  obtain ⟨x, H1, I1, rx, ex, fs, v, ea, l, q⟩ := hh
  subst ex
  obtain rfl : u = Value.ref a := rx
  subst ed
  obtain ⟨ha, _⟩ := I1.pin (a, oe) (List.mem_append_left _ hp)
  obtain ⟨vs, hd⟩ := hf
  have hx : ObjOk X.prog X.w H1 s1.heap dd (.xd fs) := I1.hok dd _ ea
  obtain ⟨mA, hns, hr⟩ := hx
  obtain ⟨od, ho, hl⟩ := lookIn_ns hns
  obtain ⟨u, hu, ru⟩ := RelO.some_of (v := v) (o := mA n) (by rw [← l]; exact hr n)
  have J : PySem.W.InstAt s1.heap a oe C (some od) := ⟨ha, hz.1, by unfold PySem.W.notCls; rw [hd] <;> rfl, by rw [hz.2]; exact ho⟩
  exact HandSPX.exc_get I1.kIn J T.ga T.gg T.exC (PySem.W.findObj_own T.hd hno rfl (by rw [hl, hu])) (handed_of ru) ⟨v, H1, I1.tok _, ru, q⟩
end SI
set_option maxRecDepth 100000
set_option maxHeartbeats 4000000
namespace SI
open PySem PySem.Spec PyProof.Rows L2 NdefX L2H
/-! ### defs called while an exception p is handled; p may be handed on -/
structure FnW (P : Program) (w : World) (K : PySem.W.Frag) (mg : Str → Option Value) (base : Heap) (CX : CXT) (k : Nat) (f : Addr) (fd : FuncData) (ps : List Str) (sp : Addr × Obj → Sp) : Prop where
  len : ∀ p vs H Q E, sp p vs H Q E → vs.length = ps.length
  run : ∀ (A : Around) (outer : List Env) (s : Shared) (H : Hp) (args : Args) (us : List Value) (vs : List V) (Q : VK) (E : XK) (p : Addr × Obj), RoomH k A → PinOk outer H s p → Env0 P w K mg base A outer s H → BindsTo s fd args (ps.zip us) → Vals vs us → sp p vs H Q E →
    codeAny (model P w) A (.call (.ref f) args) (CR CX outer P w H s Q E) s
theorem fn_ofW {CX : CXT} {P : Program} {w : World} {K : PySem.W.Frag} {mg : Str → Option Value} {base : Heap} {k : Nat} {f : Addr} {name qual : Str} {params : Arguments} {body : List Stmt} {scope : Scope} {dV kV doc pm cdv ct oc : Value} {an od : Option Addr}
    {osl : Array (Option Value)} {N ps : List Str} {sp : Addr × Obj → Sp} (lk : K.lookup f = some ⟨oc, od, .func (PySem.W.fnOf name qual params body scope dV kV doc pm an cdv ct), osl⟩) (hcd : PySem.W.codeIn K cdv qual = true) (S : FnScope N ps scope)
    (len : ∀ p vs H Q E, sp p vs H Q E → vs.length = ps.length)
    (hbody : ∀ (A : Around) (outer : List Env) (s : Shared) (H : Hp) (vs : List V) (Q : VK) (E : XK) (p : Addr × Obj), RoomH k (A.deeper (envOfC qual scope s.heap.objs.size f cdv)) → sp p vs H Q E →
      ∃ t, PSs (cxH CX P w K mg base N qual scope f cdv A outer s H E p) body t ∧ t { nx := fun _ H' => Q .non H', rt := Q } (L2.start N vs) H) :
    FnW P w K mg base CX (k + 1) f (PySem.W.fnOf name qual params body scope dV kV doc pm an cdv ct) ps sp := by
  refine ⟨len, fun A outer s H args us vs Q E p hr hpin e0 hb r hsp => ?_⟩
  have hl := len _ _ _ _ _ hsp
  have KX : K.In s.heap := e0.mod.kin.keeps fun b o e => (e0.bs b o e).1
  have lim : s.heap.NoLimit := e0.mod.nolimit.keeps fun b o e => (e0.bs b o e).1
  have hkind : ∀ y ∈ ps.zip us, scope.names.lookup y.1 = some .local ∨ (scope.names.lookup y.1 = some .cell ∧ ((cellsFrom (s.heap.objs.size + 1) scope.names []).lookup y.1).isSome = true) := fun ⟨n, v⟩ hy =>
    (S.par n (List.of_mem_zip hy).1).elim .inl fun q => .inr ⟨q, PySem.W.cellsFrom_some _ _ _ (.inl q)⟩
  refine codeAny_call_function hr.depth (KX _ _ lk) rfl S.co S.gen rfl (PySem.W.codeRec_of KX hcd) (hb _ _ _ _ (wpAny_newFunctionEnv_cells S.kind hkind fun env he s1 x => ?_))
  subst he
  obtain ⟨t, ht, hq⟩ := hbody A outer s H vs Q E p (hr.deeper _) hsp
  have I : Inv (cxH CX P w K mg base N qual scope f cdv A outer s H E p) [] (L2.start N vs) H s1 := inv_startH S hpin e0 hl r x
  refine ⟨lim.keeps x.toInCall.keep, codeAny_func (wpAny_mono (ht.run [] s1 (L2.start N vs) H _ I hq) (fun fl s' hs => ?_) fun e s' hs => hs)⟩
  have fin : ∀ {σ' : L2.St} {H' : Hp} {v : V} {u : Value}, Inv (cxH CX P w K mg base N qual scope f cdv A outer s H E p) [] σ' H' s' → L2.RelV v u → Q v H' → CE outer P w H s Q u s' :=
    fun {σ' H' v u} J rv q => ⟨v, H', J.os, J.bare, J.base, J.hok, rv, q⟩
  cases fl with
  | ret u => exact fin hs.choose_spec.choose_spec.choose_spec.1 hs.choose_spec.choose_spec.choose_spec.2.1 hs.choose_spec.choose_spec.choose_spec.2.2
  | next => exact fin (v := V.non) (u := Value.none) hs.choose_spec.choose_spec.1 rfl hs.choose_spec.choose_spec.2
  | brk => exact hs.choose_spec.choose_spec.2.elim
  | cont => exact hs.choose_spec.choose_spec.2.elim
section
variable {X : Cx} {CX : CXT} {k : Nat} {f C : Addr} {fd : FuncData} {ps : List Str} {sp : Addr × Obj → Sp} {E : L2.St → XK} {x m : Str} {q pos apos : Pos} {e o : Expr} {es : List Expr} {ta : TE} {t : TA} {p : Addr × Obj}
theorem run_fnW {pins : List (Addr × Obj)} {σ : L2.St} {H : Hp} {s : Shared} {Q : VK} {us : List Value} {vs : List V} (F : FnW X.prog X.w X.K X.mg X.base CX k f fd ps sp) (hr : RoomH k X.A) (hp : p ∈ X.pn) (hb : Binds X.K fd ps []) (hx : PassesAt CX X σ (E σ))
    (I : Inv X pins σ H s) (r : Vals vs us) (h : sp p vs H Q (E σ)) : wpAny (model X.prog X.w) X.A (call (.ref f) us) (EP X pins σ Q) X.xe s := by
  have hl : us.length = ps.length := by rw [← r.length]; exact F.len _ _ _ _ _ h
  have b := hb s us I.kIn (by rw [List.append_nil]; exact hl)
  rw [List.append_nil] at b
  have P1 := I.pin p (List.mem_append_left _ hp)
  have hpin : PinOk X.stack H s p := ⟨P1.1, P1.2.1, fun hm => (List.mem_cons.mp (I.stkSub p.1 hm)).elim P1.2.2.1 P1.2.2.2.1, P1.2.2.2.2⟩
  refine wpAny_call (codeAny_mono (F.run X.A X.stack s H ⟨us, []⟩ us vs Q (E σ) p hr hpin I.env0 b r h) fun r s' hq => ?_)
  match r, hq with
  | .error e, hq => exact hx pins H s e s' I hq
  | .ok (.ret u), hq => exact I.after hq
  | .ok .next, hq => exact False.elim hq
  | .ok .brk, hq => exact False.elim hq
  | .ok .cont, hq => exact False.elim hq
theorem pe_callW (F : FnW X.prog X.w X.K X.mg X.base CX k f fd ps sp) (hr : RoomH k X.A) (hp : p ∈ X.pn) (hg : Gl X x) (hm : X.mg x = some (.ref f)) (hk : PySem.W.keepIn X.K (.ref f) = true) (hb : Binds X.K fd ps []) (hx : ∀ σ, PassesAt CX X σ (E σ))
    (ha : PA X (e :: es) t) (hdb : (x == ("__debug__" : Str)) = false := by decide) (he : starEach (e :: es) X.env = (false, eval e X.env) :: starEach es X.env := by rfl) (hpl : (backTo pos (starEach es X.env)).any (·.1) = false := by rfl) :
    PE X (.Call (.Name x q) (e :: es) [] pos) (tCallS (sp p) E t) := by
  refine ⟨fun pins s σ H Q I h => wpAny_Call_Name_kw (ld_glob I hg hm ?_ hdb)⟩
  exact PySem.W.callWith_K (h₀ := X.base) I.ok.mod.kin hk (thn (ha.run pos pins s σ H _ I h) fun us s1 ⟨vs, H1, I1, r, q⟩ => ⟨I1.kIn, run_fnW F hr hp hb (hx σ) I1 r q⟩) he hpl
end
/-- a def that lets nothing out: its body's rule -/
theorem Fun_okW {P : Program} {w : World} {K : PySem.W.Frag} {mg : Str → Option Value} {base : Heap} {x qual : Str} {st : Stmt} {f : Addr} {fd : FuncData} {N ps : List Str} {k : Nat} {sp : Addr × Obj → Sp} (F : Fun K x qual st f fd) (S : FnScope N ps (defScope st)) (len : ∀ p vs H Q E, sp p vs H Q E → vs.length = ps.length)
    (hbody : ∀ (cdv : Value) (A : Around) (outer : List Env) (s : Shared) (H : Hp) (vs : List V) (Q : VK) (E : XK) (p : Addr × Obj), RoomH k (A.deeper (envOfC qual (defScope st) s.heap.objs.size f cdv)) → sp p vs H Q E →
      ∃ t, PSs (cxH CX0 P w K mg base N qual (defScope st) f cdv A outer s H E p).nox (defBody st) t ∧ t { nx := fun _ H' => Q .non H', rt := Q } (L2.start N vs) H) : FnW P w K mg base CX0 (k + 1) f fd ps sp := by
  obtain ⟨oc, od, kV, doc, pm, an, cdv, ct, osl, rfl, lk, hcd⟩ := F.ex
  refine fn_ofW lk hcd S len fun A outer s H vs Q E p hr hsp => ?_
  obtain ⟨t, h, q⟩ := hbody cdv A outer s H vs Q E p hr hsp
  exact ⟨t, h.nox, q⟩
theorem passA0 {X : Cx} {σ : L2.St} {E : XK} : PassesAt CX0 X σ E := fun _ _ _ _ _ _ h => h.elim
end SI
set_option maxRecDepth 100000
set_option maxHeartbeats 4000000
/-! enumerate(t), t a tuple -/
namespace SI
open PySem PySem.Spec PyProof.Rows L2
theorem enumT_meets {v : Value} {o : Obj} {H : Heap → Prop} (B : Begins v o H) :
    Meets (Builtin.«enumerate.__new__» ⟨[.type "enumerate", v], []⟩) (fun _ R s => H s.heap ∧
      R (.ok (.ret (.ref (s.heap.push o).objs.size))) { s with heap := (s.heap.push o).push { cls := .type "enumerate", data := .fields #[.none, .bool false, .ref s.heap.objs.size, rawInt 0, .none, .none] } }) :=
  .of_wp fun prog w A R s h => by
    obtain ⟨hp, g, d, tk, os⟩ := s
    have hsub := sub_enumerate
    have q1 : ∀ {A' : Around} {E : Value → Shared → Prop} {Q : Value → Shared → Prop}, Q (.ref hp.objs.size) ⟨hp.push o, g, d, tk, os⟩ → wpAny (model prog w) A' (pyIter v) Q E ⟨hp, g, d, tk, os⟩ :=
      fun q => B.iter prog w _ _ ⟨hp, g, d, tk, os⟩ _ h.1 q
    wp_walk using q1
    refine wpAny_stack_any fun st => wpAny_pure ?_
    split
    · rename_i c _ _ _ _ _
      cases (c == Value.type "enumerate") <;> (wp_walk using q1) <;> exact ⟨_, rfl, h.2⟩
    · wp_walk using q1
      exact ⟨_, rfl, h.2⟩
theorem enumT_call {prog : Program} {w : World} {A : Around} {E : Value → Shared → Prop} {s : Shared} {v : Value} {o : Obj} {H : Heap → Prop} {Q : Value → Shared → Prop} (B : Begins v o H) (h1 : H s.heap)
    (h : ∀ h', IsEnum h' (s.heap.objs.size + 1) s.heap.objs.size 0 .none → h'.get? s.heap.objs.size = some o → (∀ b o, s.heap.get? b = some o → h'.get? b = some o) → Q (.ref (s.heap.objs.size + 1)) { s with heap := h' }) :
    wpAny (model prog w) A (call (.type "enumerate") [v]) Q E s := by
  refine callType_new F.called_enumerate (by decide) (F.typeCall_enumerate_1 _) (F.newCall_enumerate_1 _) (fun obj => F.args_object_init_2 obj _) F.entry_enumerate_new (enumT_meets B) ⟨h1, ?_⟩
  have hz : (s.heap.push o).objs.size = s.heap.objs.size + 1 := Heap.size_push ..
  have he := Heap.get?_push_size (s.heap.push o) (o := { cls := .type "enumerate", data := .fields #[.none, .bool false, .ref s.heap.objs.size, rawInt 0, .none, .none] }) rfl
  rw [hz] at he
  show _ ∧ _
  rw [hz]
  exact ⟨⟨_, he, rfl⟩, h _ he (Heap.get?_push_of_some _ (Heap.get?_push_size _ B.free)) fun b o x => Heap.get?_push_of_some _ (Heap.get?_push_of_some _ x)⟩
/-- the tuple at a as it stands at each turn, each item in a new pair -/
def IteT (K : PySem.W.Frag) (a : Addr) : It :=
  ⟨fun i H => ∃ (xs : List V) (x : V), SqT K H a xs ∧ xs[i]? = some x, fun i H v H' => ∃ T x, v = .ref T ∧ H T = none ∧ H' = upd H T (.tup [.int (i : Nat), x]) ∧ ∀ xs, SqT K H a xs → xs[i]? = some x, fun i H => ∃ xs : List V, SqT K H a xs ∧ xs.length = i⟩
theorem turn_enumT {P : Program} {w : World} {K : PySem.W.Frag} {elts : List Expr} {kk : Nat} {tpos : Pos} (a e it : Addr) :
    Turn P w K (.Tuple elts kk tpos) (IteT K a) [e, it] e (fun i h => (∃ old, IsEnum h e it ((i : Nat) : Int) old) ∧ h.IsTupleIter it a i ∧ e ≠ it ∧ a ≠ it ∧ a ≠ e) where
  mem := by simp
  obj := fun i h st b hb => by
    obtain ⟨⟨old, he⟩, ⟨o, ho, hc, hd⟩, _⟩ := st
    have e' : b = e ∨ b = it := by simpa using hb
    rcases e' with z | z
    · rw [z]; exact ⟨_, he, fun v q => nomatch q⟩
    · rw [z]; exact ⟨o, ho, fun v q => by rw [hd] at q; cases q⟩
  keep := fun i h h' st k => let ⟨⟨old, he⟩, hi, hne⟩ := st; ⟨⟨old, k e (by simp) _ he⟩, hi.at fun o q => k it (by simp) o q, hne⟩
  item := by
    intro X hP hw hK hc i pins s σ H E I hf st hg
    subst hP hw hK
    obtain ⟨⟨old, he⟩, hit, hne, hai, hae⟩ := st
    obtain ⟨xs, x, hq, hx⟩ := hg
    obtain ⟨its, rv, p, hz⟩ := I.tuple hq
    obtain ⟨u, hu, ru⟩ := rv.get hx
    have hlt : i < its.toArray.size := by
      have := (List.getElem?_eq_some_iff.mp hu).1
      simpa using this
    have hel : e < s.heap.objs.size := Heap.lt_size he
    have hil : it < s.heap.objs.size := by obtain ⟨_, q, _⟩ := hit; exact Heap.lt_size q
    have pt : s.heap.IsTuple a its.toArray := p
    have D : Draws X.prog X.w X.A.in1 it [it, a] its.toArray.size (fun i v => its.toArray[i]? = some v) (fun i h => h.IsTupleIter it a i ∧ h.IsTuple a its.toArray) := Draws.tuple (show X.A.in1.handled = none from I.ok.hd hc) it a hai its.toArray
    refine wpAny_pyNext_enum_itemD D he ⟨hit, pt⟩ hlt hne (by simp [hne, Ne.symm hae]) fun y h' tk hy ho hst' hT hsz hk => ?_
    have ey : y = u := by
      have e1 : its.toArray[i]? = some u := by simpa using hu
      have e2 : its.toArray[i]? = some y := hy
      rw [e1] at e2
      exact (Option.some.inj e2).symm
    subst ey
    refine ⟨_, rfl, wpAny_letOwnedTupleGo_enum (s := { s with heap := h', toks := tk + 1 }) ho fun h'' he' sb => ?_⟩
    have hT2 : h''.get? s.heap.objs.size = some { cls := .type "tuple", data := .seq #[.int i tk, y] } := (sb.2 _ (Nat.ne_of_gt hel)).trans hT
    have new : ObjOk X.prog X.w (upd H s.heap.objs.size (.tup [.int (i : Nat), x])) h'' s.heap.objs.size (.tup [.int (i : Nat), x]) :=
      ⟨by show 2 ≤ sizeLine; decide, [.int i tk, y], .cons ⟨_, rfl⟩ (.cons ru .nil), ⟨_, hT2, rfl, _, rfl⟩⟩
    have I1 : Inv X pins σ (upd H s.heap.objs.size (.tup [.int (i : Nat), x])) { s with heap := h'', toks := tk + 1 } :=
      I.turnedNew (ch := [e, it]) (fun b o hb q => (sb.2 b (fun z => hb (by simp [z]))).trans (hk b o (fun z => hb (by simp [z])) (fun z => hb (by simp [z])) q)) hf (Nat.le_refl _) new
    refine ⟨.ref s.heap.objs.size, _, I1, rfl, ⟨_, x, rfl, I.hok.fresh (Nat.le_refl _), rfl, fun ys hy => by rw [I.tuple_inj hy hq]; exact hx⟩, ⟨⟨y, ?_⟩, hst'.1.at fun o q => (sb.2 it (Ne.symm hne)).trans q, hne, hai, hae⟩, fun b hb => ?_⟩
    · have e1 : ((i + 1 : Nat) : Int) = (i : Int) + 1 := by omega
      rw [e1]; exact he'
    · have hb' : b < s.heap.objs.size := by
        have e' : b = e ∨ b = it := by simpa using hb
        rcases e' with z | z <;> rw [z]
        · exact hel
        · exact hil
      rw [upd_ne (Nat.ne_of_lt hb')]
      exact (hf b hb).1
  done := by
    intro X hP hw hK hc i pins s σ H E I hf st hg
    subst hP hw hK
    obtain ⟨⟨old, he⟩, hit, hne, hai, hae⟩ := st
    obtain ⟨xs, hq, hx⟩ := hg
    obtain ⟨its, rv, p, hz⟩ := I.tuple hq
    have pt : s.heap.IsTuple a its.toArray := p
    obtain ⟨f0, f1, f2, f3, f4, f5⟩ := hf it (by simp)
    have hl : xs.length = its.length := rv.length
    have hi : i = its.toArray.size := by rw [List.size_toArray, ← hl, hx]
    subst hi
    have D : Draws X.prog X.w X.A.in1 it [it, a] its.toArray.size (fun i v => its.toArray[i]? = some v) (fun i h => h.IsTupleIter it a i ∧ h.IsTuple a its.toArray) := Draws.tuple (show X.A.in1.handled = none from I.ok.hd hc) it a hai its.toArray
    exact wpAny_pyNext_enum_endD D he ⟨hit, pt⟩ fun h' eb => ⟨rfl, I.turned (t' := s.toks) (fun b o hb q => eb b o hb q) f0 f1 f3 f4 f5⟩
  self := fun A i s Q E st h => let ⟨⟨_, he⟩, _⟩ := st; wpAny_pyIter_enum he h
def iEnumT (K : PySem.W.Frag) (ta : TA) : TI := fun σ H R => ta σ H fun vs H1 => ∃ a xs, vs = [.ref a] ∧ SqT K H1 a xs ∧ R (IteT K a) H1
theorem pi_enumT {X : Cx} {e : Expr} {ta : TA} {p pos tpos : Pos} {elts : List Expr} {kk : Nat} (hg : Gl X "enumerate") (hm : X.mg "enumerate" = none) (ha : PA X [e] ta) (hs : starEach [e] X.env = [(false, eval e X.env)] := by rfl) :
    PI X (.Tuple elts kk tpos) (.Call (.Name "enumerate" p) [e] [] pos) (iEnumT X.K ta) := by
  refine ⟨fun pins s σ H R I h => Call_ (ld_blt I hg hm boot_enumerate (PyProof.Rows.callWith_type1 (thn (ha.run pos pins s σ H _ I h) fun us s1 ⟨vs, H1, I1, r1, q1⟩ => ?_) hs rfl))⟩
  obtain ⟨a, xs, ex, hq, q⟩ := q1
  subst ex
  cases r1 with
  | cons r rr =>
    cases rr
    cases r
    obtain ⟨its, rv, p', hz⟩ := I1.tuple hq
    have al : a < s1.heap.objs.size := by obtain ⟨o, ho, _⟩ := p'; exact Heap.lt_size ho
    refine enumT_call (begins_tuple a its.toArray) p' fun h' he hit hk => wpAny_pyIter_enum he ?_
    have I2 : Inv X pins σ H1 { s1 with heap := h' } := I1.kept (t' := s1.toks) hk
    refine ⟨s1.heap.objs.size + 1, [s1.heap.objs.size + 1, s1.heap.objs.size], _, _, H1, rfl, I2, turn_enumT a (s1.heap.objs.size + 1) s1.heap.objs.size, ⟨⟨.none, he⟩, ⟨_, hit, rfl, rfl⟩, Nat.succ_ne_self _, Nat.ne_of_lt al, Nat.ne_of_lt (Nat.lt_succ_of_lt al)⟩, fun b hb => ?_, q⟩
    have e' : b = s1.heap.objs.size + 1 ∨ b = s1.heap.objs.size := by simpa using hb
    have hle : s1.heap.objs.size ≤ b := e'.elim (fun z => by rw [z]; exact Nat.le_add_right _ _) fun z => by rw [z]; exact Nat.le_refl _
    exact I1.fpOk hle (I1.hok.fresh hle)
/-- a loop over enumerate(t) -/
theorem for_enumT {K : PySem.W.Frag} {a : Addr} {xs : List V} {g : TG} {tb : TS} {D : Ends} {σ : L2.St} {H : Hp} (Pv : Nat → L2.St → Hp → Prop) (h0 : Pv 0 σ H) (hq : ∀ i σ H, Pv i σ H → SqT K H a xs)
    (hs : ∀ (i : Nat) (x : V) (T : Addr) (σ : L2.St) (H : Hp), xs[i]? = some x → Pv i σ H → H T = none → g (.ref T) σ (upd H T (.tup [.int (i : Nat), x])) fun σ2 H2 => tb { D with nx := Pv (i + 1), ct := Pv (i + 1), bk := D.nx } σ2 H2) (hd : ∀ σ H, Pv xs.length σ H → D.nx σ H) :
    ∃ W : Nat → Nat → L2.St → Hp → Prop, (∃ m, W 0 m σ H) ∧ ∀ i m σ H, W i m σ H →
      ((IteT K a).stop i H ∧ D.nx σ H) ∨ ((IteT K a).go i H ∧ ∃ N : L2.St → Hp → Prop, (∀ σ' H', N σ' H' → ∃ m', m' < m ∧ W (i + 1) m' σ' H') ∧ ∀ v H', (IteT K a).yld i H v H' → g v σ H' fun σ2 H2 => tb { D with nx := N, ct := N, bk := D.nx } σ2 H2) := by
  refine ⟨fun i m σ H => m = xs.length - i ∧ i ≤ xs.length ∧ Pv i σ H, ⟨xs.length, rfl, Nat.zero_le _, h0⟩, ?_⟩
  rintro i m σ H ⟨rfl, hi, p⟩
  have qx := hq i σ H p
  by_cases hlt : i < xs.length
  · refine .inr ⟨⟨xs, _, qx, List.getElem?_eq_getElem hlt⟩, Pv (i + 1), fun σ' H' p' => ⟨xs.length - (i + 1), by omega, rfl, hlt, p'⟩, fun v H' y => ?_⟩
    obtain ⟨T, x', rfl, hT, rfl, f1⟩ := y
    exact hs i x' T σ H (f1 xs qx) p hT
  · obtain rfl : i = xs.length := by omega
    exact .inl ⟨⟨xs, qx, rfl⟩, hd σ H p⟩
end SI
set_option maxRecDepth 100000
set_option maxHeartbeats 4000000
/-! sum(t), t a tuple of ints -/
namespace SI
open PySem PySem.Spec PyProof.Rows L2
def rSumT (K : PySem.W.Frag) : List V → Hp → VK → Prop := fun vs H Q => ∃ (a : Addr) (ns : List Int), vs = [V.ref a] ∧ SqT K H a (ns.map V.int) ∧ Q (.int ns.sum) H
theorem cr_sumT {X : Cx} (hc : X.calm = true) : CallR X (.builtin "sum") (rSumT X.K) := by
  intro pins s σ H vs us Q I r h
  obtain ⟨a, ns, rfl, hs, q⟩ := h
  obtain ⟨its, rv, hl, _⟩ := I.tuple hs
  rw [Vals.ref1 r]
  have hi := rv.ints
  obtain ⟨xs, e⟩ := hi.allInts.items
  have hn : numsOf (intItems xs).toList = ns := by rw [← e]; exact hi.numsOf
  rw [nums_intItems] at hn
  have hl' : s.heap.IsTuple a (intItems xs) := e ▸ (show s.heap.IsTuple a its.toArray from hl)
  refine PySem.W.ktm_sumG (I.ok.hd hc) hl' fun h' tk t' hk => ?_
  rw [preSum_eq, List.take_of_length_le (by simp), hn]
  exact ⟨.int _, H, I.kept hk, ⟨_, rfl⟩, q⟩
end SI
namespace SI
open PySem L2
/-- a loop over enumerate(list) -/
theorem for_enumL {K : PySem.W.Frag} {a : Addr} {xs : List V} {g : TG} {tb : TS} {D : Ends} {σ : L2.St} {H : Hp} (Pv : Nat → L2.St → Hp → Prop) (h0 : Pv 0 σ H) (hq : ∀ i σ H, Pv i σ H → SqL K H a xs)
    (hs : ∀ (i : Nat) (x : V) (T : Addr) (σ : L2.St) (H : Hp), xs[i]? = some x → Pv i σ H → H T = none → g (.ref T) σ (upd H T (.tup [.int (i : Nat), x])) fun σ2 H2 => tb { D with nx := Pv (i + 1), ct := Pv (i + 1), bk := D.nx } σ2 H2) (hd : ∀ σ H, Pv xs.length σ H → D.nx σ H) :
    ∃ W : Nat → Nat → L2.St → Hp → Prop, (∃ m, W 0 m σ H) ∧ ∀ i m σ H, W i m σ H →
      ((Ite K a).stop i H ∧ D.nx σ H) ∨ ((Ite K a).go i H ∧ ∃ N : L2.St → Hp → Prop, (∀ σ' H', N σ' H' → ∃ m', m' < m ∧ W (i + 1) m' σ' H') ∧ ∀ v H', (Ite K a).yld i H v H' → g v σ H' fun σ2 H2 => tb { D with nx := N, ct := N, bk := D.nx } σ2 H2) := by
  refine ⟨fun i m σ H => m = xs.length - i ∧ i ≤ xs.length ∧ Pv i σ H, ⟨xs.length, rfl, Nat.zero_le _, h0⟩, ?_⟩
  rintro i m σ H ⟨rfl, hi, p⟩
  have qx := hq i σ H p
  by_cases hlt : i < xs.length
  · refine .inr ⟨⟨xs, _, qx, List.getElem?_eq_getElem hlt⟩, Pv (i + 1), fun σ' H' p' => ⟨xs.length - (i + 1), by omega, rfl, hlt, p'⟩, fun v H' y => ?_⟩
    obtain ⟨T, x', rfl, hT, rfl, f1⟩ := y
    exact hs i x' T σ H (f1 xs qx) p hT
  · exact .inl ⟨⟨xs, qx, by omega⟩, hd σ H (by rw [show xs.length = i by omega]; exact p)⟩
end SI
namespace SI
open PySem L2
/-- a comprehension over enumerate(t) -/
theorem lc_enumT {K : PySem.W.Frag} {a : Addr} {xs : List V} {g : TG} {tt : TT} {te : TE} {vs : List Nat} {σ : L2.St} {H1 : Hp} {D : Addr} {Qd : Hp → Prop} (Pv : Nat → Hp → Prop) (h0 : Pv 0 (upd H1 D (.lst []))) (hl : ∀ i H, Pv i H → SqT K H a xs)
    (hs : ∀ (i : Nat) (x : V) (T : Addr) (H : Hp), xs[i]? = some x → Pv i H → H T = none → g (.ref T) (wipe σ vs) (upd H T (.tup [.int (i : Nat), x])) fun σ2 H2 => wipe σ2 vs = wipe σ vs ∧ tt σ2 H2 fun b H3 =>
      if b = true then te σ2 H3 fun y H4 => ∃ acc, H4 D = some (.lst acc) ∧ acc.length < sizeLine ∧ Pv (i + 1) (upd H4 D (.lst (acc ++ [y]))) else Pv (i + 1) H3) (hd : ∀ H, Pv xs.length H → Qd H) :
    ∃ W : Nat → Nat → Hp → Prop, (∃ m, W 0 m (upd H1 D (.lst []))) ∧ ∀ i m H, W i m H →
      ((IteT K a).stop i H ∧ Qd H) ∨ ((IteT K a).go i H ∧ ∃ Nx : Hp → Prop, (∀ H', Nx H' → ∃ m', m' < m ∧ W (i + 1) m' H') ∧ ∀ x H', (IteT K a).yld i H x H' → g x (wipe σ vs) H' fun σ2 H2 => wipe σ2 vs = wipe σ vs ∧ tt σ2 H2 fun b H3 =>
        if b = true then te σ2 H3 fun y H4 => ∃ acc, H4 D = some (.lst acc) ∧ acc.length < sizeLine ∧ Nx (upd H4 D (.lst (acc ++ [y]))) else Nx H3) := by
  refine ⟨fun i m H => m = xs.length - i ∧ i ≤ xs.length ∧ Pv i H, ⟨xs.length, rfl, Nat.zero_le _, h0⟩, ?_⟩
  rintro i m H ⟨rfl, hi, p⟩
  have qx := hl i H p
  by_cases hlt : i < xs.length
  · refine .inr ⟨⟨xs, _, qx, List.getElem?_eq_getElem hlt⟩, Pv (i + 1), fun H' p' => ⟨xs.length - (i + 1), by omega, rfl, hlt, p'⟩, fun v H' y => ?_⟩
    obtain ⟨T, x', rfl, hT, rfl, f1⟩ := y
    exact hs i x' T H (f1 xs qx) p hT
  · obtain rfl : i = xs.length := by omega
    exact .inl ⟨⟨xs, qx, rfl⟩, hd H p⟩
end SI
set_option maxRecDepth 100000
set_option maxHeartbeats 4000000
/-! defs, methods, classes under their names; what they let out is wished for at the caller's slots -/
namespace SI
open PySem PySem.Spec PyProof.Rows L2
/-- a def that lets nothing out, as one that may -/
theorem ok0X {P : Program} {w : World} {K : PySem.W.Frag} {mg : Str → Option Value} {base : Heap} {k : Nat} {f : Addr} {fd : FuncData} {ps : List Str} {sp : Sp} (F : FnOk P w K mg base CX0 k f fd ps sp) : FnOk P w K mg base (L2.CX P w) k f fd ps sp :=
  ⟨F.len, fun A outer s H args us vs Q E hr e0 hb r h => codeAny_mono (F.run A outer s H args us vs Q E hr e0 hb r h) fun res s' z => match res, z with
    | .ok (.ret _), z => z
    | .ok .next, z => z
    | .ok .brk, z => z
    | .ok .cont, z => z
    | .error _, z => False.elim z⟩
structure Cl (P : Program) (w : World) (K : PySem.W.Frag) (mg : Str → Option Value) (base : Heap) (k : Nat) (x : Str) (sp : Sp) (dvs : List V) : Prop where
  ex : ∃ (f : Addr) (fd : FuncData) (ps : List Str) (ds : List Value), FnOk P w K mg base (L2.CX P w) k f fd ps sp ∧ mg x = some (.ref f) ∧ PySem.W.keepIn K (.ref f) = true ∧ Binds K fd ps ds ∧ Vals dvs ds
structure Mt (P : Program) (w : World) (K : PySem.W.Frag) (mg : Str → Option Value) (base : Heap) (k : Nat) (C : Addr) (m : Str) (sp : Sp) (dvs : List V) : Prop where
  ex : ∃ (f : Addr) (fd : FuncData) (ps : List Str) (ds : List Value), Cls K C ∧ Meth K C m f ∧ FnOk P w K mg base (L2.CX P w) k f fd ps sp ∧ Binds K fd ps ds ∧ Vals dvs ds
structure Mkr (P : Program) (w : World) (K : PySem.W.Frag) (mg : Str → Option Value) (base : Heap) (k : Nat) (x : Str) (C : Addr) (sp : Sp) (dvs : List V) : Prop where
  ex : ∃ (f : Addr) (fd : FuncData) (ps : List Str) (ds : List Value), Mk K C f ∧ FnOk P w K mg base (L2.CX P w) k f fd ps sp ∧ mg x = some (.ref C) ∧ Binds K fd ps ds ∧ Vals dvs ds
def tMethS (C : Addr) (m : Str) (sp : Sp) (dvs : List V) (E : L2.St → XK) (ta : TE) (t : TA) : TE := fun σ H Q => ta σ H fun x H1 => ∃ a dx fs, x = .ref a ∧ H1 a = some (.ins C dx fs) ∧ fs.lookup m = none ∧
  t σ H1 fun vs H2 => sp (x :: (vs ++ dvs)) H2 Q (E σ)
def tMakeS (C : Addr) (sp : Sp) (dvs : List V) (E : L2.St → XK) (t : TA) : TE := fun σ H Q => t σ H fun vs H1 => ∀ x dx, H1 x = none → H1 dx = none → dx ≠ x →
  sp (.ref x :: (vs ++ dvs)) (upd (upd H1 dx (.own x)) x (.ins C dx [])) (fun v H2 => v = .non ∧ Q (.ref x) H2) (E σ)
section
variable {X : Cx} {k j : Nat} {f C : Addr} {x m : Str} {sp : Sp} {dvs : List V} {p pos apos : Pos} {e o : Expr} {es : List Expr} {ta : TE} {t : TA} {W : WX}
/-! nothing comes out here -/
theorem pe_c (c : Cl X.prog X.w X.K X.mg X.base k x sp dvs) (hr : Room j X.A) (hk : k ≤ j) (hg : Gl X x) (ha : PA X (e :: es) t)
    (hdb : (x == ("__debug__" : Str)) = false := by decide) (he : starEach (e :: es) X.env = (false, eval e X.env) :: starEach es X.env := by rfl) (hpl : (backTo pos (starEach es X.env)).any (·.1) = false := by rfl) :
    PE X (.Call (.Name x p) (e :: es) [] pos) (tCall sp dvs E0 t) := by
  obtain ⟨f, fd, ps, ds, F, hm, kp, b, d⟩ := c.ex
  exact pe_call F (hr.mono hk) hg hm kp b d passL ha hdb he hpl
theorem pe_c0 (c : Cl X.prog X.w X.K X.mg X.base k x sp dvs) (hr : Room j X.A) (hk : k ≤ j) (hg : Gl X x) (hdb : (x == ("__debug__" : Str)) = false := by decide) : PE X (.Call (.Name x p) [] [] pos) (tCall sp dvs E0 tNil) := by
  obtain ⟨f, fd, ps, ds, F, hm, kp, b, d⟩ := c.ex
  exact pe_call0 F (hr.mono hk) hg hm kp b d passL hdb
theorem pe_mk (c : Mkr X.prog X.w X.K X.mg X.base k x C sp dvs) (hr : Room j X.A) (hk : k + 1 ≤ j) (hg : Gl X x) (ha : PA X (e :: es) t)
    (hdb : (x == ("__debug__" : Str)) = false := by decide) (he : starEach (e :: es) X.env = (false, eval e X.env) :: starEach es X.env := by rfl) (hpl : (backTo pos (starEach es X.env)).any (·.1) = false := by rfl) :
    PE X (.Call (.Name x p) (e :: es) [] pos) (tMake C sp dvs E0 t) := by
  obtain ⟨f, fd, ps, ds, M, F, hm, b, d⟩ := c.ex
  exact pe_make M F (hr.mono hk) hg hm b d passL ha hdb he hpl
theorem pe_mt {pl : Sem Bool} (c : Mt X.prog X.w X.K X.mg X.base k C m sp dvs) (hr : Room j X.A) (hk : k ≤ j) (he : PE X o ta) (ha : PA X (e :: es) t)
    (hst : starEach (e :: es) X.env = (false, eval e X.env) :: starEach es X.env := by rfl) (hpl : (backTo pos (starEach es X.env)).any (·.1) = false := by rfl)
    (ht : eval (.Call (.Attribute o m apos) (e :: es) [] pos) X.env = (do
      let ov ← eval o X.env
      standAt apos.atName
      let (f, first) ← holding [ov] (getMethod ov m pl)
      callWith pos f first (backTo pos (starEach (e :: es) X.env)) (backToKw pos (keywordEach [] X.env))) := by rfl) :
    PE X (.Call (.Attribute o m apos) (e :: es) [] pos) (tMeth C m sp dvs E0 ta t) := by
  obtain ⟨f, fd, ps, ds, hc, hm, F, b, d⟩ := c.ex
  exact pe_meth (pl := pl) he hc hm F (hr.mono hk) b d passL ha hst hpl ht
theorem pe_mt0 {pl : Sem Bool} (c : Mt X.prog X.w X.K X.mg X.base k C m sp dvs) (hr : Room j X.A) (hk : k ≤ j) (he : PE X o ta)
    (ht : eval (.Call (.Attribute o m apos) [] [] pos) X.env = (do
      let ov ← eval o X.env
      standAt apos.atName
      let (f, first) ← holding [ov] (getMethod ov m pl)
      callWith pos f first (backTo pos (starEach [] X.env)) (backToKw pos (keywordEach [] X.env))) := by rfl) :
    PE X (.Call (.Attribute o m apos) [] [] pos) (tMeth C m sp dvs E0 ta tNil) := by
  obtain ⟨f, fd, ps, ds, hc, hm, F, b, d⟩ := c.ex
  exact pe_meth0 (pl := pl) he hc hm F (hr.mono hk) b d passL ht
/-- int(i), i an int -/
theorem call_intI : CallR X (.type "int") (fun xs H Q => ∃ i, xs = [.int i] ∧ Q (.int i) H) := fun pins s σ H xs us Q I r h => call_int1 pins s σ H xs us Q I r (.inl h)
/-! errors come out: W is wished -/
theorem pe_cX (tk : Takes X W) (c : Cl X.prog X.w X.K X.mg X.base k x sp dvs) (hr : Room j X.A) (hk : k ≤ j) (hg : Gl X x) (ha : PA X (e :: es) t)
    (hdb : (x == ("__debug__" : Str)) = false := by decide) (he : starEach (e :: es) X.env = (false, eval e X.env) :: starEach es X.env := by rfl) (hpl : (backTo pos (starEach es X.env)).any (·.1) = false := by rfl) :
    PE X (.Call (.Name x p) (e :: es) [] pos) (tCallSD sp dvs (WE W) t) := by
  obtain ⟨f, fd, ps, ds, F, hm, kp, b, d⟩ := c.ex
  exact pe_callSD F (hr.mono hk) hg hm kp b d (fun σ => passAt tk σ) ha hdb he hpl
theorem run_mkS {pins : List (Addr × Obj)} {σ : L2.St} {H : Hp} {s : Shared} {Q : VK} {us : List Value} {vs : List V} {fd : FuncData} {ps : List Str} {ds : List Value} {E : XK} (M : Mk X.K C f) (F : FnOk X.prog X.w X.K X.mg X.base (L2.CX X.prog X.w) k f fd ps sp) (hr : Room (k + 1) X.A) (hb : Binds X.K fd ps ds) (hd : Vals dvs ds)
    (hx : PassesAt (L2.CX X.prog X.w) X σ E) (I : Inv X pins σ H s) (r : Vals vs us)
    (h : ∀ x dx, H x = none → H dx = none → dx ≠ x → sp (.ref x :: (vs ++ dvs)) (upd (upd H dx (.own x)) x (.ins C dx [])) (fun v H2 => v = .non ∧ Q (.ref x) H2) E) :
    wpAny (model X.prog X.w) X.A (call (.ref C) us) (EP X pins σ Q) X.xe s := by
  have hq := h (s.heap.objs.size + 1) s.heap.objs.size (I.hok.fresh (Nat.le_succ _)) (I.hok.fresh (Nat.le_refl _)) (Nat.ne_of_lt (Nat.lt_succ_self _))
  have I2 := Inv.made (C := C) I
  have r2 : Vals (V.ref (s.heap.objs.size + 1) :: (vs ++ dvs)) (Value.ref (s.heap.objs.size + 1) :: (us ++ ds)) := .cons rfl (r.append hd)
  have hl : (Value.ref (s.heap.objs.size + 1) :: us ++ ds).length = ps.length := (r2.length.symm.trans (F.len _ _ _ _ hq) : _)
  refine wpAny_call (make_map (f := f) I.kIn M.makes M.init (beq_iff_eq.mp M.fn) (codeAny_mono (F.run _ X.stack _ _ ⟨Value.ref (s.heap.objs.size + 1) :: us, []⟩ (Value.ref (s.heap.objs.size + 1) :: (us ++ ds)) _ _ E (hr.make C us [])
    (I2.env0.make C us []) (hb _ (Value.ref (s.heap.objs.size + 1) :: us) I2.kIn hl) r2 hq) fun r s' hq' => ?_))
  match r, hq' with
  | .error e, hq' => exact hx pins _ _ e s' I2 hq'
  | .ok (.ret u), hq' =>
    obtain ⟨v, H', I3, rv, ev, q3⟩ := I2.after hq'
    subst ev
    exact ⟨rv, ⟨V.ref (s.heap.objs.size + 1), H', I3, rfl, q3⟩⟩
  | .ok .next, hq' => exact False.elim hq'
  | .ok .brk, hq' => exact False.elim hq'
  | .ok .cont, hq' => exact False.elim hq'
theorem pe_mkX (tk : Takes X W) (c : Mkr X.prog X.w X.K X.mg X.base k x C sp dvs) (hr : Room j X.A) (hk : k + 1 ≤ j) (hg : Gl X x) (ha : PA X (e :: es) t)
    (hdb : (x == ("__debug__" : Str)) = false := by decide) (he : starEach (e :: es) X.env = (false, eval e X.env) :: starEach es X.env := by rfl) (hpl : (backTo pos (starEach es X.env)).any (·.1) = false := by rfl) :
    PE X (.Call (.Name x p) (e :: es) [] pos) (tMakeS C sp dvs (WE W) t) := by
  obtain ⟨f, fd, ps, ds, M, F, hm, b, d⟩ := c.ex
  exact ⟨fun pins s σ H Q I h => wpAny_Call_Name_kw (ld_glob I hg hm (PySem.W.callWith_K (h₀ := X.base) I.ok.mod.kin M.kp (thn (ha.run pos pins s σ H _ I h) fun us s1 ⟨vs, H1, I1, r, q⟩ => ⟨I1.kIn, run_mkS M F (hr.mono hk) b d (passAt tk σ) I1 r q⟩) he hpl) hdb)⟩
theorem pe_mtX {pl : Sem Bool} (tk : Takes X W) (c : Mt X.prog X.w X.K X.mg X.base k C m sp dvs) (hr : Room j X.A) (hk : k ≤ j) (he : PE X o ta) (ha : PA X (e :: es) t)
    (hst : starEach (e :: es) X.env = (false, eval e X.env) :: starEach es X.env := by rfl) (hpl : (backTo pos (starEach es X.env)).any (·.1) = false := by rfl)
    (ht : eval (.Call (.Attribute o m apos) (e :: es) [] pos) X.env = (do
      let ov ← eval o X.env
      standAt apos.atName
      let (f, first) ← holding [ov] (getMethod ov m pl)
      callWith pos f first (backTo pos (starEach (e :: es) X.env)) (backToKw pos (keywordEach [] X.env))) := by rfl) :
    PE X (.Call (.Attribute o m apos) (e :: es) [] pos) (tMethS C m sp dvs (WE W) ta t) := by
  obtain ⟨f, fd, ps, ds, hc, hm, F, b, d⟩ := c.ex
  refine ⟨fun pins s σ H Q I h => PySem.W.methodCall_KW (pl := pl) (thn (he.run pins s σ H _ I h) fun u s1 ⟨x, H1, I1, rx, a, dx, fs, ex, ea, l, q⟩ => ?_) ht⟩
  subst ex
  obtain rfl : u = Value.ref a := rx
  exact getmeth_ok I1 ea hc hm l (PySem.W.callWith_K (first := [.ref a]) (h₀ := X.base) I.ok.mod.kin hm.kp (thn (ha.run pos pins s1 σ H1 _ I1 q) fun us s2 ⟨vs, H2, I2, r, q2⟩ => ⟨I2.kIn, run_fnSD (us := .ref a :: us) (vs := .ref a :: vs) F (hr.mono hk) b d (passAt tk σ) I2 (.cons rfl r) q2⟩) hst hpl)
end
end SI
set_option maxRecDepth 100000
set_option maxHeartbeats 4000000
/-! what the top has written, a thing at a time -/
namespace SI
open PySem PySem.Spec PyProof.Rows L2 NdefX
section
variable {P : Program} {w : World} {K : PySem.W.Frag} {mg : Str → Option Value} {base : Heap}
structure DefAt (K : PySem.W.Frag) (mg : Str → Option Value) (x : Str) (st : Stmt) (ps : List Str) : Prop where
  ex : ∃ (f : Addr) (fd : FuncData), Fun K x x st f fd ∧ mg x = some (.ref f) ∧ Binds K fd ps []
structure MetAt (K : PySem.W.Frag) (C : Addr) (m qual : Str) (st : Stmt) (ps : List Str) : Prop where
  ex : ∃ (f : Addr) (fd : FuncData), Cls K C ∧ Meth K C m f ∧ Fun K m qual st f fd ∧ Binds K fd ps []
structure MakAt (K : PySem.W.Frag) (mg : Str → Option Value) (x : Str) (C : Addr) (qual : Str) (st : Stmt) (ps : List Str) : Prop where
  ex : ∃ (f : Addr) (fd : FuncData), Mk K C f ∧ Fun K "__init__" qual st f fd ∧ mg x = some (.ref C) ∧ Binds K fd ps []
theorem cl_of {x : Str} {st : Stmt} {N ps : List Str} {k : Nat} {sp : Sp} (D : DefAt K mg x st ps) (S : FnScope N ps (defScope st)) (len : ∀ vs H Q E, sp vs H Q E → vs.length = ps.length)
    (hbody : ∀ (f : Addr) (cdv : Value) (A : Around) (outer : List Env) (s : Shared) (H : Hp) (vs : List V) (Q : VK) (E : XK), Room k (A.deeper (envOfC x (defScope st) s.heap.objs.size f cdv)) → sp vs H Q E →
      ∃ t, PSs (cxOf (L2.CX P w) P w K mg base N x (defScope st) f cdv A outer s H E) (defBody st) t ∧ t { nx := fun _ H' => Q .non H', rt := Q } (L2.start N vs) H) : Cl P w K mg base (k + 1) x sp [] := by
  obtain ⟨f, fd, F, hm, b⟩ := D.ex
  exact ⟨f, fd, ps, [], F.okX S len (hbody f), hm, F.kp, b, .nil⟩
theorem mt_of {m qual : Str} {C : Addr} {st : Stmt} {N ps : List Str} {k : Nat} {sp : Sp} (D : MetAt K C m qual st ps) (S : FnScope N ps (defScope st)) (len : ∀ vs H Q E, sp vs H Q E → vs.length = ps.length)
    (hbody : ∀ (f : Addr) (cdv : Value) (A : Around) (outer : List Env) (s : Shared) (H : Hp) (vs : List V) (Q : VK) (E : XK), Room k (A.deeper (envOfC qual (defScope st) s.heap.objs.size f cdv)) → sp vs H Q E →
      ∃ t, PSs (cxOf (L2.CX P w) P w K mg base N qual (defScope st) f cdv A outer s H E) (defBody st) t ∧ t { nx := fun _ H' => Q .non H', rt := Q } (L2.start N vs) H) : Mt P w K mg base (k + 1) C m sp [] := by
  obtain ⟨f, fd, c, me, F, b⟩ := D.ex
  exact ⟨f, fd, ps, [], c, me, F.okX S len (hbody f), b, .nil⟩
theorem mkr_of {x qual : Str} {C : Addr} {st : Stmt} {N ps : List Str} {k : Nat} {sp : Sp} (D : MakAt K mg x C qual st ps) (S : FnScope N ps (defScope st)) (len : ∀ vs H Q E, sp vs H Q E → vs.length = ps.length)
    (hbody : ∀ (f : Addr) (cdv : Value) (A : Around) (outer : List Env) (s : Shared) (H : Hp) (vs : List V) (Q : VK) (E : XK), Room k (A.deeper (envOfC qual (defScope st) s.heap.objs.size f cdv)) → sp vs H Q E →
      ∃ t, PSs (cxOf (L2.CX P w) P w K mg base N qual (defScope st) f cdv A outer s H E) (defBody st) t ∧ t { nx := fun _ H' => Q .non H', rt := Q } (L2.start N vs) H) : Mkr P w K mg base (k + 1) x C sp [] := by
  obtain ⟨f, fd, M, F, hm, b⟩ := D.ex
  exact ⟨f, fd, ps, [], M, F.okX S len (hbody f), hm, b, .nil⟩
/-- a def that is called by keywords, too -/
structure Cd (P : Program) (w : World) (K : PySem.W.Frag) (mg : Str → Option Value) (base : Heap) (k : Nat) (x : Str) (st : Stmt) (ps : List Str) (sp : Sp) : Prop where
  ex : ∃ (f : Addr) (fd : FuncData), FnOk P w K mg base (L2.CX P w) k f fd ps sp ∧ Fun K x x st f fd ∧ mg x = some (.ref f) ∧ Binds K fd ps []
theorem Cd.cl {k : Nat} {x : Str} {st : Stmt} {ps : List Str} {sp : Sp} (c : Cd P w K mg base k x st ps sp) : Cl P w K mg base k x sp [] := by
  obtain ⟨f, fd, F, Fn, hm, b⟩ := c.ex
  exact ⟨f, fd, ps, [], F, hm, Fn.kp, b, .nil⟩
theorem cd_of {x : Str} {st : Stmt} {N ps : List Str} {k : Nat} {sp : Sp} (D : DefAt K mg x st ps) (S : FnScope N ps (defScope st)) (len : ∀ vs H Q E, sp vs H Q E → vs.length = ps.length)
    (hbody : ∀ (f : Addr) (cdv : Value) (A : Around) (outer : List Env) (s : Shared) (H : Hp) (vs : List V) (Q : VK) (E : XK), Room k (A.deeper (envOfC x (defScope st) s.heap.objs.size f cdv)) → sp vs H Q E →
      ∃ t, PSs (cxOf (L2.CX P w) P w K mg base N x (defScope st) f cdv A outer s H E) (defBody st) t ∧ t { nx := fun _ H' => Q .non H', rt := Q } (L2.start N vs) H) : Cd P w K mg base (k + 1) x st ps sp := by
  obtain ⟨f, fd, F, hm, b⟩ := D.ex
  exact ⟨f, fd, F.okX S len (hbody f), F, hm, b⟩
/-- f(k = v, ..): ks the keywords in the call's order, gV puts their values in the parameters' order -/
def tK0 (m : Nat) (sp : Sp) (gV : List V → List V) (tk : TA) : TE := fun σ H Q => tk σ H fun zs H1 => zs.length = m ∧ sp (gV zs) H1 Q E0
theorem pe_cK0 {X : Cx} {k j : Nat} {x : Str} {st : Stmt} {ps ks : List Str} {sp : Sp} {p pos : Pos} {kws : List Keyword} {tk : TA} {g : {α : Type} → List α → List α} (c : Cd X.prog X.w X.K X.mg X.base k x st ps sp) (hr : Room j X.A) (hk : k ≤ j) (hg : Gl X x) (hkw : PK X kws tk)
    (hb : ∀ (kV doc pm : Value) (an : Option Addr) (cdv ct : Value) (ws : List Value), ws.length = ks.length → bindArgs (PySem.W.fnOf x x (defArgs st) (defBody st) (defScope st) .none kV doc pm an cdv ct) ⟨[], ks.zip ws⟩ = pure (ps.zip (g ws)))
    (hrel : ∀ {zs : List V} {ws : List Value}, Vals zs ws → Vals (g zs) (g ws))
    (hall : (backToKw pos (keywordEach kws X.env)).all (·.1.isSome) = true := by rfl) (hks : (backToKw pos (keywordEach kws X.env)).filterMap (·.1) = ks := by rfl)
    (hdb : (x == ("__debug__" : Str)) = false := by decide) (hpl : ((backTo pos (starEach [] X.env)).any (·.1) || (backToKw pos (keywordEach kws X.env)).any (·.1.isNone)) = false := by rfl) :
    PE X (.Call (.Name x p) [] kws pos) (tK0 ks.length sp g tk) := by
  obtain ⟨f, fd, F, Fn, hm, _⟩ := c.ex
  refine ⟨fun pins s σ H Q I h => wpAny_Call_Name_kw (ld_glob I hg hm ?_ hdb)⟩
  refine PySem.W.callWith_KW0 (h₀ := X.base) I.ok.mod.kin Fn.kp hall (thn (hkw.run pos pins s σ H _ I h) fun ws s2 ⟨zs, H2, I2, rz, l2, q2⟩ => ⟨I2.kIn, ?_⟩) hpl
  rw [hks]
  obtain ⟨oc, od, kV, doc, pm, an, cdv, ct, osl, rfl, lk, hcd⟩ := Fn.ex
  have b : KBn X.K (PySem.W.fnOf x x (defArgs st) (defBody st) (defScope st) .none kV doc pm an cdv ct) ps 0 ks (fun _ ws => g ws) (fun _ zs => g zs) :=
    ⟨fun s us ws _ l1 l2 => by
      have e : us = [] := List.eq_nil_of_length_eq_zero l1
      subst e
      exact BindsTo.of_eq (hb kV doc pm an cdv ct ws l2), fun _ r => hrel r⟩
  exact run_fnN (F.mono hk) hr b passL I2 .nil rz rfl l2 q2
/-- a def within an except suite -/
structure ClW (P : Program) (w : World) (K : PySem.W.Frag) (mg : Str → Option Value) (base : Heap) (k : Nat) (x : Str) (sp : Addr × Obj → Sp) : Prop where
  ex : ∃ (f : Addr) (fd : FuncData) (ps : List Str), FnW P w K mg base CX0 k f fd ps sp ∧ mg x = some (.ref f) ∧ PySem.W.keepIn K (.ref f) = true ∧ Binds K fd ps []
theorem clW_of {x : Str} {st : Stmt} {N ps : List Str} {k : Nat} {sp : Addr × Obj → Sp} (D : DefAt K mg x st ps) (S : FnScope N ps (defScope st)) (len : ∀ p vs H Q E, sp p vs H Q E → vs.length = ps.length)
    (hbody : ∀ (f : Addr) (cdv : Value) (A : Around) (outer : List Env) (s : Shared) (H : Hp) (vs : List V) (Q : VK) (E : XK) (p : Addr × Obj), L2H.RoomH k (A.deeper (envOfC x (defScope st) s.heap.objs.size f cdv)) → sp p vs H Q E →
      ∃ t, PSs (L2H.cxH CX0 P w K mg base N x (defScope st) f cdv A outer s H E p).nox (defBody st) t ∧ t { nx := fun _ H' => Q .non H', rt := Q } (L2.start N vs) H) : ClW P w K mg base (k + 1) x sp := by
  obtain ⟨f, fd, F, hm, b⟩ := D.ex
  exact ⟨f, fd, ps, Fun_okW F S len (hbody f), hm, F.kp, b⟩
theorem room_mark {k : Nat} {A : Around} (r : Room k A) (v : Option Value) : L2H.RoomH k (A.mark v) := ⟨r.dp, r.un⟩
theorem pe_cW {X : Cx} {k j : Nat} {x : Str} {sp : Addr × Obj → Sp} {q pos : Pos} {e : Expr} {es : List Expr} {t : TA} {p : Addr × Obj} (c : ClW X.prog X.w X.K X.mg X.base k x sp) (hr : L2H.RoomH j X.A) (hk : k ≤ j) (hp : p ∈ X.pn) (hg : Gl X x) (ha : PA X (e :: es) t)
    (hdb : (x == ("__debug__" : Str)) = false := by decide) (he : starEach (e :: es) X.env = (false, eval e X.env) :: starEach es X.env := by rfl) (hpl : (backTo pos (starEach es X.env)).any (·.1) = false := by rfl) :
    PE X (.Call (.Name x q) (e :: es) [] pos) (tCallS (sp p) (fun _ => E0) t) := by
  obtain ⟨f, fd, ps, F, hm, kp, b⟩ := c.ex
  exact pe_callW F (hr.mono hk) hp hg hm kp b (fun _ => passA0) ha hdb he hpl
abbrev cxd (P : Program) (w : World) (K : PySem.W.Frag) (mg : Str → Option Value) (base : Heap) (N : List Str) (x : Str) (st : Stmt) (f : Addr) (cdv : Value) (A : Around) (outer : List Env) (s : Shared) (H : Hp) (E : XK) : Cx := cxOf (L2.CX P w) P w K mg base N x (defScope st) f cdv A outer s H E
/-! in a suite -/
theorem call_isS {X : Cx} {a : Addr} {oe : Obj} {cls : Value} {d : Option Addr} {pn : List (Addr × Obj)} (EK : ErrK X.K) (hz : Zc cls d oe) (hf : ∃ vs, oe.data = .fields vs) : CallR (X.suite a ((a, oe) :: pn)) (.builtin "isinstance") (rIsX X.K a cls d) :=
  call_isX (X := X.suite a ((a, oe) :: pn)) EK List.mem_cons_self hz hf
theorem pe_errS {X : Cx} {a : Addr} {oe : Obj} {cls : Value} {d : Option Addr} {pn : List (Addr × Obj)} {e : Expr} {te : TE} {pos : Pos} {n : Str} (hz : Zc cls d oe) (hf : ∃ vs, oe.data = .fields vs) (he : PE (X.suite a ((a, oe) :: pn)) e te)
    (hb : attributeBase e n (X.suite a ((a, oe) :: pn)).env (eval e (X.suite a ((a, oe) :: pn)).env) = eval e (X.suite a ((a, oe) :: pn)).env := by rfl) : PE (X.suite a ((a, oe) :: pn)) (.Attribute e n pos) (tErrF X.K a cls d n te) :=
  pe_errF (X := X.suite a ((a, oe) :: pn)) List.mem_cons_self hz hf he hb
theorem pe_cWS {X : Cx} {a : Addr} {oe : Obj} {pn : List (Addr × Obj)} {k j : Nat} {x : Str} {sp : Addr × Obj → Sp} {q pos : Pos} {e : Expr} {es : List Expr} {t : TA} (c : ClW X.prog X.w X.K X.mg X.base k x sp) (hr : Room j X.A) (hk : k ≤ j) (hg : Gl X x) (ha : PA (X.suite a ((a, oe) :: pn)) (e :: es) t)
    (hdb : (x == ("__debug__" : Str)) = false := by decide) (he : starEach (e :: es) X.env = (false, eval e X.env) :: starEach es X.env := by rfl) (hpl : (backTo pos (starEach es X.env)).any (·.1) = false := by rfl) :
    PE (X.suite a ((a, oe) :: pn)) (.Call (.Name x q) (e :: es) [] pos) (tCallS (sp (a, oe)) (fun _ => E0) t) :=
  pe_cW (X := X.suite a ((a, oe) :: pn)) c (room_mark hr _) hk List.mem_cons_self hg ha hdb he hpl
/-! constants -/
theorem pe_const {X : Cx} {x : Str} {i : Int} {pos : Pos} (hg : Gl X x) (hm : ∃ t, X.mg x = some (.int i t)) (hd : (x == ("__debug__" : Str)) = false := by decide) : PE X (.Name x pos) (tC (.int i)) :=
  ⟨fun _ _ _ H _ I h => hm.elim fun t ht => ld_glob I hg ht ⟨.int i, H, I, ⟨t, rfl⟩, h⟩ hd⟩
/-! errors -/
structure Rs (P : Program) (w : World) (K : PySem.W.Frag) (mg : Str → Option Value) (base : Heap) (x : Str) (C : Addr) (mk : List V → List (Str × V) → Prop) : Prop where
  run : ∀ {X : Cx} {e : Expr} {es : List Expr} {ta : TA} {p pos : Pos}, X.prog = P → X.w = w → X.K = K → X.mg = mg → X.base = base → Room 2 X.A → Gl X x → PA X (e :: es) ta →
    starEach (e :: es) X.env = (false, eval e X.env) :: starEach es X.env → (backTo pos (starEach es X.env)).any (·.1) = false → PMk X (.Call (.Name x p) (e :: es) [] pos) (tErr C mk ta)
theorem pmk_rs {X : Cx} {j : Nat} {x : Str} {C : Addr} {mk : List V → List (Str × V) → Prop} {e : Expr} {es : List Expr} {ta : TA} {p pos : Pos} (c : Rs X.prog X.w X.K X.mg X.base x C mk) (hr : Room j X.A) (hk : 2 ≤ j) (hg : Gl X x) (ha : PA X (e :: es) ta)
    (he : starEach (e :: es) X.env = (false, eval e X.env) :: starEach es X.env := by rfl) (hpl : (backTo pos (starEach es X.env)).any (·.1) = false := by rfl) : PMk X (.Call (.Name x p) (e :: es) [] pos) (tErr C mk ta) :=
  c.run rfl rfl rfl rfl rfl (hr.mono hk) hg ha he hpl
theorem rs1 {x y f : Str} {C fI : Addr} {fd : FuncData} (T : OexC K C) (hm : mg x = some (.ref C)) (iC : PySem.W.findIn K (.ref C) "__init__" = some (some (.ref fI)))
    (tI : PySem.W.typeIn K (.ref fI) = some (.type "function")) (F : FnOk P w K mg base CX0 1 fI fd ["self", y] (spE1 C f)) (b : Binds K fd ["self", y] []) (hdb : (x == ("__debug__" : Str)) = false) : Rs P w K mg base x C (mk1 f) :=
  ⟨fun h1 h2 h3 h4 h5 hr hg ha he hpl => by subst h1 h2 h3 h4 h5; exact pmk_e1 T iC tI F hr b pass0 hg hm ha hdb he hpl⟩
theorem rs2 {x y z f g : Str} {C fI : Addr} {ok : V → Prop} {fd : FuncData} (T : OexC K C) (hm : mg x = some (.ref C)) (iC : PySem.W.findIn K (.ref C) "__init__" = some (some (.ref fI)))
    (tI : PySem.W.typeIn K (.ref fI) = some (.type "function")) (F : FnOk P w K mg base CX0 1 fI fd ["self", y, z] (spE2 C f g ok)) (b : Binds K fd ["self", y, z] []) (hdb : (x == ("__debug__" : Str)) = false) : Rs P w K mg base x C (mk2 f g ok) :=
  ⟨fun h1 h2 h3 h4 h5 hr hg ha he hpl => by subst h1 h2 h3 h4 h5; exact pmk_e2 T iC tI F hr b pass0 hg hm ha hdb he hpl⟩
end

/-! tests -/
section
variable {A B : Prop}
theorem ifT {c : Bool} (h : c = true) (a : A) : if c = true then A else B := by rw [if_pos h]; exact a
theorem ifF {c : Bool} (h : c = false) (b : B) : if c = true then A else B := by rw [h, if_neg Bool.false_ne_true]; exact b
theorem ifB {c : Bool} (h1 : c = true → A) (h2 : c = false → B) : if c = true then A else B := by
  cases c with
  | true => exact ifT rfl (h1 rfl)
  | false => exact ifF rfl (h2 rfl)
theorem ifD {p : Prop} [Decidable p] (h1 : p → A) (h2 : ¬ p → B) : if decide p = true then A else B := ifB (fun h => h1 (of_decide_eq_true h)) fun h => h2 (of_decide_eq_false h)
theorem ifN {p : Prop} [Decidable p] (h1 : ¬ p → A) (h2 : p → B) : if (!decide p) = true then A else B := ifB (fun h => h1 (by simpa using h)) fun h => h2 (by simpa using h)
theorem ifI {i j : Int} (h1 : i = j → A) (h2 : i ≠ j → B) : if decide (V.int i = V.int j) = true then A else B := ifD (fun h => h1 (V.int.inj h)) fun h => h2 fun e => h (by rw [e])
theorem ifIN {i j : Int} (h1 : i ≠ j → A) (h2 : i = j → B) : if (!decide (V.int i = V.int j)) = true then A else B := ifN (fun h => h1 fun e => h (by rw [e])) fun h => h2 (V.int.inj h)
end
theorem atI0 {x : V} {xs : List V} : atI (x :: xs) 0 = some x := at_of (j := 0) rfl rfl
theorem atI1 {x y : V} {xs : List V} : atI (x :: y :: xs) 1 = some y := at_of (j := 1) rfl rfl
theorem ixN_of {n j : Nat} {i : Int} (e : i = (j : Int)) (h : j < n) : ixN n i = some j := by
  unfold ixN
  rw [e, if_pos (Int.natCast_nonneg j), if_pos (by omega)]
  simp
theorem seqIx_of {n j : Nat} {i : Int} (e : i = (j : Int)) (h : j < n) : seqIndex? i n = some j := by
  rw [e, PySem.seqIndex_of (Int.natCast_nonneg j) (by omega)]
  simp
theorem len1 {x : V} {xs : List V} : 0 < (x :: xs).length := Nat.succ_pos _
theorem len2 {x y : V} {xs : List V} : 1 < (x :: y :: xs).length := Nat.succ_lt_succ (Nat.succ_pos _)

/-! heaps -/
theorem smN {H H' : Hp} {q : Addr} {o : HO} (s : Same H H') (h : H' q = none) : Same H (upd H' q o) := fun b u e => by rw [upd_ne (ne_of_none (s b u e) h)]; exact s b u e
theorem smM {H H' : Hp} {q : Addr} {o : HO} (s : Same H H') (h : H q = none) : Same H (upd H' q o) := fun b u e => by rw [upd_ne (ne_of_none e h)]; exact s b u e
theorem sm0 {H : Hp} {q : Addr} {o : HO} (h : H q = none) : Same H (upd H q o) := smN (Same.refl H) h
theorem smT {K : PySem.W.Frag} {H H' : Hp} {a : Addr} {xs : List V} (e : Same H H') (h : SqT K H a xs) : SqT K H' a xs := Evl.ex_t e h
/-- a value is read behind a new object -/
theorem atN {H : Hp} {q b : Addr} {o u : HO} (h : H b = some u) (n : H q = none) : upd H q o b = some u := by rw [upd_ne (ne_of_none h n)]; exact h
theorem ints_at {ns : List Int} {i : Nat} {x : V} (h : (ns.map V.int)[i]? = some x) : ∃ z, ns[i]? = some z ∧ x = V.int z := by
  rw [List.getElem?_map] at h
  cases e : ns[i]? with
  | none => rw [e] at h; cases h
  | some z => rw [e] at h; exact ⟨z, rfl, (Option.some.inj h).symm⟩
theorem at_ints {ns : List Int} {i : Nat} {z : Int} (h : ns[i]? = some z) : (ns.map V.int)[i]? = some (V.int z) := by rw [List.getElem?_map, h]; rfl
theorem sz_small {n : Nat} (h : n ≤ 100000) : n ≤ sizeLine := Nat.le_trans h (by decide)
theorem sz_lt {n : Nat} (h : n ≤ 100000) : n < sizeLine := Nat.lt_of_le_of_lt h (by decide)
theorem cut_map {α : Type} (F : α → V) (ns : List α) (lo hi : Option Int) : ∃ ms : List α, cutV (ns.map F) lo hi = ms.map F ∧ ms.length ≤ ns.length ∧ ms = (ns.drop (HT.sIx ns.length 0 lo)).take (HT.sIx ns.length ns.length hi - HT.sIx ns.length 0 lo) :=
  ⟨_, by unfold cutV; rw [List.length_map, List.map_take, List.map_drop], by rw [List.length_take, List.length_drop]; omega, rfl⟩
theorem pow10 {j : Int} (h0 : 0 ≤ j) (h1 : j ≤ 1000000) : CPow 10 j := ⟨h0, h1, by decide⟩
/-! attributes -/
theorem putF_new {f : Str} {v : V} : ∀ {fs : List (Str × V)}, fs.lookup f = none → putF f v fs = fs ++ [(f, v)]
  | [], _ => rfl
  | (g, y) :: fs, h => by
    have hne : ¬ g = f := fun e => by
      subst e
      simp [List.lookup] at h
    have h2 : fs.lookup f = none := by
      rw [lookup_put, if_neg (Ne.symm hne)] at h
      exact h
    show (if g = f then (g, v) :: fs else (g, y) :: putF f v fs) = _
    rw [if_neg hne, putF_new h2]
    rfl
theorem lk_hit {f : Str} {v : V} {fs : List (Str × V)} : ((f, v) :: fs).lookup f = some v := by rw [lookup_put, if_pos rfl]
theorem lk_next {f g : Str} {v : V} {fs : List (Str × V)} {o : Option V} (h : ¬ f = g) (k : fs.lookup f = o) : ((g, v) :: fs).lookup f = o := by rw [lookup_put, if_neg h]; exact k
theorem lk_nil {f : Str} : ([] : List (Str × V)).lookup f = none := rfl
end SI
set_option maxRecDepth 100000
set_option maxHeartbeats 4000000
/-! == of rows of ints; values by a measure of depth -/
namespace SI
open PySem PySem.Spec PyProof.Rows L2
theorem dpAll_map {α : Type} {K : PySem.W.Frag} {H : Hp} {F : α → V} {G : α → PyData} : ∀ {l : List α}, (∀ x ∈ l, Dp K H (F x) (G x)) → DpAll K H (l.map F) (l.map G)
  | [], _ => .nil
  | x :: l, h => .cons (h x List.mem_cons_self) (dpAll_map fun y hy => h y (List.mem_cons_of_mem _ hy))
theorem dpL {K : PySem.W.Frag} {H : Hp} {a : Addr} {ns : List Int} (h : SqL K H a (ns.map V.int)) : Dp K H (.ref a) (.list (ns.map PyData.int)) := .lst h (dpAll_map fun x _ => .int x)
theorem dpT {K : PySem.W.Frag} {H : Hp} {a : Addr} {ns : List Int} (h : SqT K H a (ns.map V.int)) : Dp K H (.ref a) (.tuple (ns.map PyData.int)) := .tup h (dpAll_map fun x _ => .int x)
theorem lay_ints : ∀ ns : List Int, PyData.canLayAll0 (ns.map PyData.int) = true ∧ PyData.depthAll (ns.map PyData.int) = 0
  | [] => ⟨rfl, rfl⟩
  | n :: ns => by
    obtain ⟨h1, h2⟩ := lay_ints ns
    refine ⟨?_, ?_⟩
    · show (PyData.canLay0 (.int n) && PyData.canLayAll0 (ns.map PyData.int)) = true
      rw [h1]
      rfl
    · show max (PyData.depth (.int n)) (PyData.depthAll (ns.map PyData.int)) = 0
      rw [h2]
      rfl
theorem shL (ns : List Int) : SeqAt.shaped (.list (ns.map PyData.int)) = true := by
  obtain ⟨h1, h2⟩ := lay_ints ns
  show (PyData.canLayAll0 (ns.map PyData.int) && decide (PyData.depthAll (ns.map PyData.int) + 1 ≤ 64)) = true
  rw [h1, h2]
  rfl
theorem shT (ns : List Int) : SeqAt.shaped (.tuple (ns.map PyData.int)) = true := by
  obtain ⟨h1, h2⟩ := lay_ints ns
  show (PyData.canLayAll0 (ns.map PyData.int) && decide (PyData.depthAll (ns.map PyData.int) + 1 ≤ 64)) = true
  rw [h1, h2]
  rfl
theorem eqv_all : ∀ xs ys : List Int, PyData.eqvAll (xs.map PyData.int) (ys.map PyData.int) = decide (xs = ys)
  | [], [] => rfl
  | [], _ :: _ => rfl
  | _ :: _, [] => rfl
  | x :: xs, y :: ys => by
    show ((x == y) && PyData.eqvAll (xs.map PyData.int) (ys.map PyData.int)) = _
    rw [eqv_all xs ys]
    by_cases h : x = y
    · subst h
      by_cases h2 : xs = ys
      · subst h2; simp
      · simp [h2]
    · simp [h]
theorem eqvL (xs ys : List Int) : PyData.eqv (.list (xs.map PyData.int)) (.list (ys.map PyData.int)) = decide (xs = ys) := eqv_all xs ys
theorem eqvT (xs ys : List Int) : PyData.eqv (.tuple (xs.map PyData.int)) (.tuple (ys.map PyData.int)) = decide (xs = ys) := eqv_all xs ys
/-- == of data in an except suite -/
theorem op_eqDS {X : Cx} {a : Addr} {oe : Obj} {pn : List (Addr × Obj)} (hu : X.A.units + 64 < cLine) : OpR (X.suite a ((a, oe) :: pn)) (compareOp .Eq) (rEqD X.K) := op_eqD (X := X.suite a ((a, oe) :: pn)) hu
theorem op_neDS {X : Cx} {a : Addr} {oe : Obj} {pn : List (Addr × Obj)} (hu : X.A.units + 64 < cLine) : OpR (X.suite a ((a, oe) :: pn)) (compareOp .NotEq) (rNeD X.K) := op_neD (X := X.suite a ((a, oe) :: pn)) hu
/-! builtins in a try body: X the def's own context -/
theorem call_list_ofT {X : Cx} {pn : List (Addr × Obj)} {xe : Value → Shared → Prop} : CallR (X.tr pn xe) (.type "list") (fun xs H Q => ∃ (p : Addr) (ys : List V), xs = [V.ref p] ∧ (SqL X.K H p ys ∨ SqT X.K H p ys) ∧ ∀ (l : Addr), H l = none → Q (V.ref l) (upd H l (HO.lst ys))) := call_list_of (X := X.tr pn xe)
/-! in a comprehension's block: X the def's own context -/
section
variable {X : Cx} {s : Shared} {H : Hp} {sc : Scope} {ce : Env} {fp : List Addr}
theorem ix_listB : IxR (X.blk s H sc ce fp) (rIxL X.K) := ix_list (X := X.blk s H sc ce fp)
theorem ix_tupB : IxR (X.blk s H sc ce fp) (rIxT X.K) := ix_tup (X := X.blk s H sc ce fp)
end
end SI
set_option maxRecDepth 100000
set_option maxHeartbeats 4000000
/-! rules in a comprehension's block (B), in an except suite (S), in a try body (T): their readings name the def's own written part -/
namespace SI
open PySem PySem.Spec PyProof.Rows L2
section
variable {X : Cx} {s : Shared} {H : Hp} {sc : Scope} {ce : Env} {fp : List Addr}
theorem sl_listB : SlR (X.blk s H sc ce fp) (rSlL X.K) := sl_list (X := (X.blk s H sc ce fp))
theorem sl_tupAB : SlR (X.blk s H sc ce fp) (rSlA X.K) := sl_tupA (X := (X.blk s H sc ce fp))
theorem call_isiB : CallR (X.blk s H sc ce fp) (.builtin "isinstance") (rIsi X.K) := call_isi (X := (X.blk s H sc ce fp))
theorem op_catTB : OpR (X.blk s H sc ce fp) (binaryOp .Add) (rCatT X.K) := op_catT (X := (X.blk s H sc ce fp))
theorem call_list_ofB : CallR (X.blk s H sc ce fp) (.type "list") (fun xs H Q => ∃ (p : Addr) (ys : List V), xs = [V.ref p] ∧ (SqL X.K H p ys ∨ SqT X.K H p ys) ∧ ∀ (l : Addr), H l = none → Q (V.ref l) (upd H l (HO.lst ys))) := call_list_of (X := (X.blk s H sc ce fp))
theorem call_tuple_ofB : CallR (X.blk s H sc ce fp) (.type "tuple") (fun xs H Q => ∃ (p : Addr) (ys : List V), xs = [V.ref p] ∧ ((SqL X.K H p ys ∧ ∀ (l : Addr), H l = none → Q (V.ref l) (upd H l (HO.tup ys))) ∨ (SqT X.K H p ys ∧ Q (V.ref p) H))) := call_tuple_of (X := (X.blk s H sc ce fp))
theorem call_len_seqB : CallR (X.blk s H sc ce fp) (.builtin "len") (fun xs H Q => ∃ (p : Addr) (ys : List V), xs = [V.ref p] ∧ (SqL X.K H p ys ∨ SqT X.K H p ys) ∧ Q (V.int (ys.length : Nat)) H) := call_len_seq (X := (X.blk s H sc ce fp))
theorem op_eqDB (hu : X.A.units + 64 < cLine) : OpR (X.blk s H sc ce fp) (compareOp .Eq) (rEqD X.K) := op_eqD (X := (X.blk s H sc ce fp)) hu
theorem op_neDB (hu : X.A.units + 64 < cLine) : OpR (X.blk s H sc ce fp) (compareOp .NotEq) (rNeD X.K) := op_neD (X := (X.blk s H sc ce fp)) hu
theorem pe_fldB {e : Expr} {f : Str} {pos : Pos} {ta : TE} (he : PE (X.blk s H sc ce fp) e ta) (hb : attributeBase e f ((X.blk s H sc ce fp)).env (eval e ((X.blk s H sc ce fp)).env) = eval e ((X.blk s H sc ce fp)).env) : PE (X.blk s H sc ce fp) (.Attribute e f pos) (tFld X.K ta f) := pe_fld (X := (X.blk s H sc ce fp)) he hb
end
section
variable {X : Cx} {a : Addr} {oe : Obj} {pn : List (Addr × Obj)}
theorem ix_listS : IxR (X.suite a ((a, oe) :: pn)) (rIxL X.K) := ix_list (X := (X.suite a ((a, oe) :: pn)))
theorem ix_tupS : IxR (X.suite a ((a, oe) :: pn)) (rIxT X.K) := ix_tup (X := (X.suite a ((a, oe) :: pn)))
theorem sl_listS : SlR (X.suite a ((a, oe) :: pn)) (rSlL X.K) := sl_list (X := (X.suite a ((a, oe) :: pn)))
theorem sl_tupAS : SlR (X.suite a ((a, oe) :: pn)) (rSlA X.K) := sl_tupA (X := (X.suite a ((a, oe) :: pn)))
theorem call_isiS : CallR (X.suite a ((a, oe) :: pn)) (.builtin "isinstance") (rIsi X.K) := call_isi (X := (X.suite a ((a, oe) :: pn)))
theorem op_catTS : OpR (X.suite a ((a, oe) :: pn)) (binaryOp .Add) (rCatT X.K) := op_catT (X := (X.suite a ((a, oe) :: pn)))
theorem call_list_ofS : CallR (X.suite a ((a, oe) :: pn)) (.type "list") (fun xs H Q => ∃ (p : Addr) (ys : List V), xs = [V.ref p] ∧ (SqL X.K H p ys ∨ SqT X.K H p ys) ∧ ∀ (l : Addr), H l = none → Q (V.ref l) (upd H l (HO.lst ys))) := call_list_of (X := (X.suite a ((a, oe) :: pn)))
theorem call_tuple_ofS : CallR (X.suite a ((a, oe) :: pn)) (.type "tuple") (fun xs H Q => ∃ (p : Addr) (ys : List V), xs = [V.ref p] ∧ ((SqL X.K H p ys ∧ ∀ (l : Addr), H l = none → Q (V.ref l) (upd H l (HO.tup ys))) ∨ (SqT X.K H p ys ∧ Q (V.ref p) H))) := call_tuple_of (X := (X.suite a ((a, oe) :: pn)))
theorem call_len_seqS : CallR (X.suite a ((a, oe) :: pn)) (.builtin "len") (fun xs H Q => ∃ (p : Addr) (ys : List V), xs = [V.ref p] ∧ (SqL X.K H p ys ∨ SqT X.K H p ys) ∧ Q (V.int (ys.length : Nat)) H) := call_len_seq (X := (X.suite a ((a, oe) :: pn)))
theorem pe_fldS {e : Expr} {f : Str} {pos : Pos} {ta : TE} (he : PE (X.suite a ((a, oe) :: pn)) e ta) (hb : attributeBase e f ((X.suite a ((a, oe) :: pn))).env (eval e ((X.suite a ((a, oe) :: pn))).env) = eval e ((X.suite a ((a, oe) :: pn))).env) : PE (X.suite a ((a, oe) :: pn)) (.Attribute e f pos) (tFld X.K ta f) := pe_fld (X := (X.suite a ((a, oe) :: pn))) he hb
end
section
variable {X : Cx} {pn : List (Addr × Obj)} {xe : Value → Shared → Prop}
theorem ix_listT : IxR (X.tr pn xe) (rIxL X.K) := ix_list (X := (X.tr pn xe))
theorem ix_tupT : IxR (X.tr pn xe) (rIxT X.K) := ix_tup (X := (X.tr pn xe))
theorem sl_listT : SlR (X.tr pn xe) (rSlL X.K) := sl_list (X := (X.tr pn xe))
theorem sl_tupAT : SlR (X.tr pn xe) (rSlA X.K) := sl_tupA (X := (X.tr pn xe))
theorem call_isiT : CallR (X.tr pn xe) (.builtin "isinstance") (rIsi X.K) := call_isi (X := (X.tr pn xe))
theorem op_catTT : OpR (X.tr pn xe) (binaryOp .Add) (rCatT X.K) := op_catT (X := (X.tr pn xe))
theorem call_tuple_ofT : CallR (X.tr pn xe) (.type "tuple") (fun xs H Q => ∃ (p : Addr) (ys : List V), xs = [V.ref p] ∧ ((SqL X.K H p ys ∧ ∀ (l : Addr), H l = none → Q (V.ref l) (upd H l (HO.tup ys))) ∨ (SqT X.K H p ys ∧ Q (V.ref p) H))) := call_tuple_of (X := (X.tr pn xe))
theorem call_len_seqT : CallR (X.tr pn xe) (.builtin "len") (fun xs H Q => ∃ (p : Addr) (ys : List V), xs = [V.ref p] ∧ (SqL X.K H p ys ∨ SqT X.K H p ys) ∧ Q (V.int (ys.length : Nat)) H) := call_len_seq (X := (X.tr pn xe))
theorem op_eqDT (hu : X.A.units + 64 < cLine) : OpR (X.tr pn xe) (compareOp .Eq) (rEqD X.K) := op_eqD (X := (X.tr pn xe)) hu
theorem op_neDT (hu : X.A.units + 64 < cLine) : OpR (X.tr pn xe) (compareOp .NotEq) (rNeD X.K) := op_neD (X := (X.tr pn xe)) hu
theorem pe_fldT {e : Expr} {f : Str} {pos : Pos} {ta : TE} (he : PE (X.tr pn xe) e ta) (hb : attributeBase e f ((X.tr pn xe)).env (eval e ((X.tr pn xe)).env) = eval e ((X.tr pn xe)).env) : PE (X.tr pn xe) (.Attribute e f pos) (tFld X.K ta f) := pe_fld (X := (X.tr pn xe)) he hb
end
def swp {α : Type} : List α → List α
  | [x, y] => [y, x]
  | l => l
theorem swp_rel {zs : List V} {ws : List Value} (r : L2.Vals zs ws) : L2.Vals (swp zs) (swp ws) := by
  cases r with
  | nil => exact .nil
  | cons a r => cases r with
    | nil => exact .cons a .nil
    | cons b r => cases r with
      | nil => exact .cons b (.cons a .nil)
      | cons c r => exact .cons a (.cons b (.cons c r))
end SI
set_option maxRecDepth 100000
set_option maxHeartbeats 4000000
/-! from what k_is finds to what the walks take -/
namespace SI
open PySem PySem.Spec PyProof.Rows L2 NdefX
section
variable {P : Program} {w : World} {K : PySem.W.Frag} {mg : Str → Option Value} {base h : Heap}
abbrev BindOk (x qual : Str) (st : Stmt) (ps : List Str) : Prop := ∀ (kV doc pm : Value) (an : Option Addr) (cdv ct : Value) (us : List Value), us.length = ps.length →
  bindArgs (PySem.W.fnOf x qual (defArgs st) (defBody st) (defScope st) .none kV doc pm an cdv ct) ⟨us, []⟩ = pure (ps.zip us)
theorem def_at {x : Str} {st : Stmt} {ps : List Str} {f : Addr} {oc kV doc pm cdv ct : Value} {od an : Option Addr} {osl : Array (Option Value)} (X : K.In h) (G : h.Ns mainGlobals mg) (hb : BindOk x x st ps)
    (a : PySem.W.nsIn K mainGlobals x = some (some (.ref f))) (l : K.lookup f = some ⟨oc, od, .func (PySem.W.fnOf x x (defArgs st) (defBody st) (defScope st) .none kV doc pm an cdv ct), osl⟩)
    (c : PySem.W.codeIn K cdv x = true) (k : PySem.W.keepIn K (.ref f) = true) {R : Prop} (r : DefAt K mg x st ps → R) : R :=
  r ⟨f, _, fun_mk l c k, PySem.W.mg_of X G a, (fun_mk l c k).binds hb⟩
theorem cls_at {C : Addr} (pg : PySem.W.plainGet K C Str.empty = true) (hd : PySem.W.hasDictIn K C = true) (po : PySem.W.plainOver K C = true) (sa : PySem.W.findIn K (.ref C) "__setattr__" = some (some (.builtin "object.__setattr__")))
    {R : Prop} (r : Cls K C → R) : R := r ⟨pg, hd, po, sa⟩
theorem mak_at {x qual : Str} {C : Addr} {st : Stmt} {ps : List Str} {f : Addr} {oc kV doc pm cdv ct : Value} {od an : Option Addr} {osl : Array (Option Value)} (X : K.In h) (G : h.Ns mainGlobals mg) (hb : BindOk "__init__" qual st ps)
    (a : PySem.W.nsIn K mainGlobals x = some (some (.ref C))) (mk : PySem.W.makesIn K C = true) (i : PySem.W.findIn K (.ref C) "__init__" = some (some (.ref f))) (n : PySem.W.isFn K (.ref f) = true) (kc : PySem.W.keepIn K (.ref C) = true)
    (l : K.lookup f = some ⟨oc, od, .func (PySem.W.fnOf "__init__" qual (defArgs st) (defBody st) (defScope st) .none kV doc pm an cdv ct), osl⟩)
    (c : PySem.W.codeIn K cdv qual = true) (k : PySem.W.keepIn K (.ref f) = true) {R : Prop} (r : MakAt K mg x C qual st ps → R) : R :=
  r ⟨f, _, ⟨mk, i, n, kc⟩, fun_mk l c k, PySem.W.mg_of X G a, (fun_mk l c k).binds hb⟩
theorem met_at {m qual : Str} {C : Addr} {st : Stmt} {ps : List Str} {f : Addr} {oc kV doc pm cdv ct : Value} {od an : Option Addr} {osl : Array (Option Value)} (hC : Cls K C) (hb : BindOk m qual st ps)
    (i : PySem.W.findIn K (.ref C) m = some (some (.ref f))) (n : PySem.W.isFn K (.ref f) = true)
    (l : K.lookup f = some ⟨oc, od, .func (PySem.W.fnOf m qual (defArgs st) (defBody st) (defScope st) .none kV doc pm an cdv ct), osl⟩)
    (c : PySem.W.codeIn K cdv qual = true) (k : PySem.W.keepIn K (.ref f) = true) {R : Prop} (r : MetAt K C m qual st ps → R) : R :=
  r ⟨f, _, hC, ⟨i, n, k⟩, fun_mk l c k, (fun_mk l c k).binds hb⟩
/-- a class of errors: at its name, what isinstance and except read of it -/
theorem exc_at {x : Str} {C : Addr} {nm q : Str} {N : Addr} {bs bm : List Value} {sn : List Str} {sub : List Value} {ab : Bool} {col : Option Bool} {dd : Option Addr} {k0 k1 k2 k3 k5 : Option Value} (X : K.In h) (G : h.Ns mainGlobals mg)
    (a : PySem.W.nsIn K mainGlobals x = some (some (.ref C))) (l : K.lookup C = some (excClassObj nm q C N bs bm true sn sub ab col dd k0 k1 k2 k3 k5 "ValueError.__new__")) (rf : PySem.HandSPX.refsVE bm = true)
    (sa : PySem.W.findIn K (.ref C) "__setattr__" = some (some (.builtin "object.__setattr__"))) (exC : PySem.W.subIn K (.ref C) (.type "BaseException") = some true) (tyC : PySem.W.typeIn K (.ref C) = some (.type "type")) (kC : PySem.W.keepIn K (.ref C) = true)
    (ga : PySem.W.findIn K (.ref C) "__getattribute__" = some (some (.builtin "BaseException.__getattribute__"))) (gg : PySem.W.findIn K (.ref C) "__getattr__" = some none) (hd : PySem.W.hasDictIn K C = true)
    (ac : PySem.W.findIn K (.ref C) "__class__" = some (some (.builtin "object.__class__"))) (mo : PySem.W.mroIn K C (.type "object") = some true)
    {R : Prop} (r : mg x = some (.ref C) → OexC K C → ErrC K C → R) : R :=
  r (PySem.W.mg_of X G a) ⟨⟨nm, q, N, bs, bm, sn, sub, ab, col, dd, k0, k1, k2, k3, k5, l, rf⟩, sa, exC, tyC, kC⟩
    ⟨by unfold PySem.W.clsIn; rw [l] <;> rfl, ga, gg, exC, hd, ac, mo⟩
/-- what an own __init__ with super() is -/
theorem sup_at {C fI : Addr} {qual : Str} {st : Stmt} {e0 : Expr} {rest : List Stmt} {p0 p1 p2 p3 p4 : Pos} {oc : Value} {od : Option Addr} {kV doc pm : Value} {an : Option Addr} {ct : Value} {osl : Array (Option Value)} {cc cda : Addr}
      {q1 : Value} {q2 : Option Addr} {q3 : Array (Option Value)} {r1 : Value} {r2 : Option Addr} {vs : Array Value} {r3 : Array (Option Value)} {file : Str} {tf : Tok} (X : K.In h) (G : h.Ns mainGlobals mg) (O : OexC K C)
    (hbody : defBody st = .Expr (.Call (.Attribute (.Call (.Name "super" p0) [] [] p1) "__init__" p2) [e0] [] p3) p4 :: rest)
    (i : PySem.W.findIn K (.ref C) "__init__" = some (some (.ref fI))) (t : PySem.W.typeIn K (.ref fI) = some (.type "function"))
    (l : K.lookup fI = some ⟨oc, od, .func (PySem.W.fnX "__init__" qual (defArgs st) (defBody st) (defScope st) [("__class__", cc)] .none kV doc pm an (.ref cda) ct), osl⟩)
    (c : PySem.W.codeIn K (.ref cda) qual = true) (lc : K.lookup cda = some ⟨r1, r2, .fields vs, r3⟩) (hf : vs[2]? = some (.str file tf)) (hm : (P.main.file == file) = true) (lcc : K.lookup cc = some ⟨q1, q2, .cell (some (.ref C)), q3⟩)
    (self : PySem.W.mroIn K C (.ref C) = some true) (sup : PySem.W.ks_superIn K C C "__init__" = some (some (.builtin "ValueError.__init__"))) (sub : PySem.W.subIn K (.ref C) (.type "ValueError") = some true)
    (z : PySem.W.nsIn K mainGlobals "super" = some none) (any : PySem.W.nsIn K cStatics "thirdparty.any" = some none) (top : (P.main.scope.names.lookup ("super" : Str)).isSome = false)
    {R : Prop} (r : ∀ fd, SupF P K mg C fI qual (defArgs st) e0 rest (defScope st) p0 p1 p2 p3 p4 fd → PySem.W.findIn K (.ref C) "__init__" = some (some (.ref fI)) → PySem.W.typeIn K (.ref fI) = some (.type "function") → 
      (∃ (kV doc pm : Value) (an : Option Addr) (cc : Addr) (cdv ct : Value), fd = PySem.W.fnX "__init__" qual (defArgs st) (defBody st) (defScope st) [("__class__", cc)] .none kV doc pm an cdv ct) → R) : R :=
  r _ ⟨⟨oc, od, kV, doc, pm, an, ct, osl, cc, cda, q1, q2, q3, r1, r2, vs, r3, file, tf, by rw [hbody], l, c, lc, hf, hm, lcc⟩, O, self, sup, sub, PySem.W.mg_none_of X G z, any, top⟩ i t ⟨kV, doc, pm, an, cc, .ref cda, ct, rfl⟩
abbrev BindX (qual : Str) (st : Stmt) (ps : List Str) : Prop := ∀ (kV doc pm : Value) (an : Option Addr) (cc : Addr) (cdv ct : Value) (us : List Value), us.length = ps.length →
  bindArgs (PySem.W.fnX "__init__" qual (defArgs st) (defBody st) (defScope st) [("__class__", cc)] .none kV doc pm an cdv ct) ⟨us, []⟩ = pure (ps.zip us)
theorem bindX {qual : Str} {st : Stmt} {ps : List Str} {fd : FuncData} (hb : BindX qual st ps) (e : ∃ (kV doc pm : Value) (an : Option Addr) (cc : Addr) (cdv ct : Value), fd = PySem.W.fnX "__init__" qual (defArgs st) (defBody st) (defScope st) [("__class__", cc)] .none kV doc pm an cdv ct) : Binds K fd ps [] := by
  obtain ⟨kV, doc, pm, an, cc, cdv, ct, rfl⟩ := e
  exact .all (hb kV doc pm an cc cdv ct)
theorem xm_at {C D : Addr} {b : Bool} (e : ErrC K D) (o : OexC K D) (s : PySem.W.subIn K (.ref C) (.ref D) = some b) : PySem.W.exmOne K (.ref C) (.ref D) = some b := PySem.W.exm_ref e.exC e.hd o.tyC s
theorem kit_ref {C D : Addr} {b : Bool} (e : ErrC K D) (o : OexC K D) (n : C ≠ D) (s : PySem.W.subIn K (.ref C) (.ref D) = some b) : PySem.W.kitOne K (.ref C) (.ref D) = some b := by
  unfold PySem.W.kitOne
  rw [if_neg (by intro z; exact n (by have := eq_of_beq z; cases this; rfl))]
  show (if ((PySem.W.clsIn K D).isSome && PySem.W.typeIn K (.ref D) == some (.type "type")) = true then _ else none) = _
  rw [if_pos (by rw [e.cl, o.tyC] <;> rfl)]
  exact s
theorem kit_self {C : Addr} : PySem.W.kitOne K (.ref C) (.ref C) = some true := by
  unfold PySem.W.kitOne
  rw [if_pos (by simp)]
theorem kit_VE {C : Addr} (s : PySem.W.subIn K (.ref C) (.type "ValueError") = some true) : PySem.W.kitOne K (.ref C) (.type "ValueError") = some true := by
  unfold PySem.W.kitOne
  rw [if_neg (by intro z; have := eq_of_beq z; cases this)]
  show (if PySem.W.kitMeta "ValueError" = true then _ else none) = _
  rw [if_pos (by decide +kernel)]
  exact s
theorem int_at {x : Str} {i : Int} {t : Tok} (X : K.In h) (G : h.Ns mainGlobals mg) (a : PySem.W.nsIn K mainGlobals x = some (some (.int i t))) : ∃ t, mg x = some (.int i t) := ⟨t, PySem.W.mg_of X G a⟩
theorem int_is {x : Str} {i : Int} {t : Tok} (X : K.In h) (G : h.Ns mainGlobals mg) (a : PySem.W.nsIn K mainGlobals x = some (some (.int i t))) {R : Prop} (r : (∃ t, mg x = some (.int i t)) → R) : R := r ⟨t, PySem.W.mg_of X G a⟩
theorem int_as {x : Str} {i j : Int} (e : i = j) (h : ∃ t, mg x = some (.int i t)) : ∃ t, mg x = some (.int j t) := e ▸ h
theorem law_at {l : PySem.W.OpenLaw} {k : Nat} {fa : Addr} {x y : Str} {st : Stmt} {sp : Sp} {oc kV doc pm cdv ct : Value} {f : Addr} {od an : Option Addr} {osl : Array (Option Value)} (X : K.In h) (G : h.Ns mainGlobals mg) (hfa : mg x = some (.ref fa)) (hb : BindOk x x st [y])
    (hl : K.lookup f = some ⟨oc, od, .func (PySem.W.fnOf x x (defArgs st) (defBody st) (defScope st) .none kV doc pm an cdv ct), osl⟩) (a : PySem.W.nsIn K mainGlobals x = some (some (.ref f)))
    (c : ∀ base, Cd l.prog w K mg base k x st [y] sp) :
    ∃ fd : FuncData, (∀ (s : Shared) (v : Value), BindsTo s fd ⟨[v], []⟩ [(y, v)]) ∧ ∀ base : Heap, K.In base → base.Ns mainGlobals mg → FnOk l.prog w K mg base (L2.CX l.prog w) k fa fd [y] sp := by
  have e := hfa.symm.trans (PySem.W.mg_of X G a)
  cases e
  refine ⟨_, fun s v => .of_eq (hb kV doc pm an cdv ct [v] rfl), fun base _ _ => ?_⟩
  obtain ⟨f', fd', F, Fn, hm, b⟩ := (c base).ex
  have e2 := hm.symm.trans hfa
  cases e2
  obtain ⟨oc', od', kV', doc', pm', an', cdv', ct', osl', rfl, lk, hcd⟩ := Fn.ex
  have e3 := lk.symm.trans hl
  injection e3 with e3
  injection e3 with _ _ e3 _
  injection e3 with e3
  rw [← e3]
  exact F
end
theorem walkK {l : PySem.W.OpenLaw} {n k : Nat} {q : Program} {loose : List Str} {XP : (Str → Option Value) → Heap → Prop} {YP : World → Heap → Prop} {d : DefRec} {K : Params → PySem.W.Frag} {sp : PySem.W.Frag → Sp} {x : Str}
    (hn : l.most = some n) (hn2 : n ≤ sizeLine) (hdf : d.params.defaults = []) (hr : Room k callerA) (hsp : ∀ (K : PySem.W.Frag) (H : Hp) (a : Addr) (ns : List Int), ns.length ≤ n → SqL K H a (ns.map V.int) → sp K [.ref a] H (fun v _ => v = .bl true) fun _ _ _ => False)
    (hY : ∀ (w : World) (h : Heap), YP w h → (K w.params).In h)
    (F : ∀ (w : World) (mg : Str → Option Value) (fa : Addr) (h : Heap), (K w.params).In h → h.Ns mainGlobals mg → mg d.name = some (.ref fa) →
      ∃ fd : FuncData, (∀ (s : Shared) (u : Value), BindsTo s fd ⟨[u], []⟩ [(x, u)]) ∧
        ∀ base : Heap, (K w.params).In base → base.Ns mainGlobals mg → FnOk l.prog w (K w.params) mg base (L2.CX l.prog w) k fa fd [x] (sp (K w.params))) :
    PySem.W.WalkO q loose XP YP l.row.toRowW d [] (fun f vs => PySem.call f vs) :=
  L2.walk_of (CX := fun w => L2.CX l.prog w) (sp := fun w => sp (K w.params)) hn hn2 hdf hr hY F (fun w H a ns hl _ hS => hsp _ H a ns hl hS) fun w H s e s' h => by
    obtain ⟨_, _, _, _, _, _, _, _, _, _, _, _, hE⟩ := h
    exact hE
end SI
set_option maxRecDepth 100000
set_option maxHeartbeats 4000000
/-! comparisons by an own method of a class whose instances have a dict -/
namespace SI
open PySem PySem.Spec PyProof.Rows L2
/-- the type of a value, as the abstract heap tells it -/
inductive TyV (K : PySem.W.Frag) (H : Hp) : V → Value → Prop
  | non : TyV K H .non (.type "NoneType")
  | bl (b : Bool) : TyV K H (.bl b) (.type "bool")
  | int (i : Int) : TyV K H (.int i) (.type "int")
  | str (s : Str) : TyV K H (.str s) (.type "str")
  | tup {a : Addr} {xs : List V} (h : SqT K H a xs) : TyV K H (.ref a) (.type "tuple")
  | lst {a : Addr} {xs : List V} (h : SqL K H a xs) : TyV K H (.ref a) (.type "list")
  | ins {a C d : Addr} {fs : List (Str × V)} (h : H a = some (.ins C d fs)) : TyV K H (.ref a) (.ref C)
section
variable {X : Cx} {k j : Nat} {C : Addr} {sp : Sp}
theorem looks_ty {pins : List (Addr × Obj)} {σ : L2.St} {H : Hp} {s : Shared} {y : V} {u tb : Value} (I : Inv X pins σ H s) (r : RelV y u) (t : TyV X.K H y tb) : PySem.W.Looks (model X.prog X.w) s.heap (typeOf u) tb := by
  cases t with
  | non => cases (show u = Value.none from r); exact fun A Q E s1 _ h => by unfold typeOf; exact wpAny_pure h
  | bl b => cases (show u = Value.bool b from r); exact fun A Q E s1 _ h => by unfold typeOf; exact wpAny_pure h
  | int i => obtain ⟨t, rfl⟩ := (show ∃ t, u = Value.int i t from r); exact fun A Q E s1 _ h => by unfold typeOf; exact wpAny_pure h
  | str x => obtain ⟨t, rfl⟩ := (show ∃ t, u = Value.str x t from r); exact fun A Q E s1 _ h => by unfold typeOf; exact wpAny_pure h
  | tup h =>
    cases (show u = Value.ref _ from r)
    obtain ⟨its, r2, ⟨o, e, hc, n, hd⟩, z⟩ := I.tuple h
    exact hc ▸ (PySem.W.Looks.ld e).andThen .now
  | lst h =>
    cases (show u = Value.ref _ from r)
    obtain ⟨its, r2, ⟨o, n, e, hc, hd, hs⟩, z⟩ := I.list h
    exact hc ▸ (PySem.W.Looks.ld e).andThen .now
  | ins h =>
    cases (show u = Value.ref _ from r)
    obtain ⟨m, J, _⟩ := ins_get I.hok h
    obtain ⟨od, J, _⟩ := J.look
    exact J.type
theorem nf_sub {K : PySem.W.Frag} {tb : Value} (h : PySem.W.subIn K tb (.ref C) = some false) : PySem.W.notFirst K C tb = true := by
  unfold PySem.W.notFirst
  rw [h]
  simp
theorem nf_self {K : PySem.W.Frag} : PySem.W.notFirst K C (.ref C) = true := by simp [PySem.W.notFirst]
theorem kit_tyR {K : PySem.W.Frag} {n : String} {b : Bool} (hd : PySem.W.hasDictIn K C = true) (ht : PySem.W.typeIn K (.ref C) = some (.type "type")) (s : PySem.W.subIn K (.type n) (.ref C) = some b) : PySem.W.kitOne K (.type n) (.ref C) = some b := by
  obtain ⟨cd, hc, _⟩ := PySem.W.any_some hd
  unfold PySem.W.kitOne
  rw [if_neg (by intro z; have := eq_of_beq z; cases this)]
  show (if ((PySem.W.clsIn K C).isSome && PySem.W.typeIn K (.ref C) == some (.type "type")) = true then _ else none) = _
  rw [if_pos (by rw [hc, ht] <;> rfl)]
  exact s
/-- isinstance(e, (c1, c2, ..)), e the error that is handled -/
def rIsXT (K : PySem.W.Frag) (a : Addr) (cls : Value) (d : Option Addr) : List V → Hp → VK → Prop := fun xs H Q => ∃ (D tp : Addr) (cs : List V) (us : List Value) (b : Bool), cls = .ref D ∧ ErrC K D ∧ xs = [.ref a, .ref tp] ∧ H tp = some (.tup cs) ∧ Paired ClsV cs us ∧ PySem.W.kitAny K cls us = some b ∧
  (∀ dd, d = some dd → ∃ fs, H dd = some (.xd fs)) ∧ Q (.bl b) H
theorem call_isXT {a : Addr} {oe : Obj} {cls : Value} {d : Option Addr} (EK : ErrK X.K) (hp : (a, oe) ∈ X.pn) (hz : Zc cls d oe) (hf : ∃ vs, oe.data = .fields vs) : CallR X (.builtin "isinstance") (rIsXT X.K a cls d) := by
  intro pins s σ H xs us Q I r h
  obtain ⟨D, tp, cs, ws, b, ecls, C, rfl, hT, hcs, e, hd, q⟩ := h
  cases r with
  | cons rx rr =>
    cases rr with
    | cons rt rr =>
      cases rr
      cases rx
      cases rt
      subst ecls
      obtain ⟨_, its, rv, o, h1, h2, n, h3⟩ := (show ObjOk X.prog X.w H s.heap tp (.tup cs) from I.hok tp _ hT)
      have e3 := ClsV.all hcs rv
      subst e3
      obtain ⟨oc, odd, dt, sl⟩ := o
      simp only at h2 h3
      subst h2 h3
      obtain ⟨hget, _⟩ := I.pin (a, oe) (List.mem_append_left _ hp)
      obtain ⟨vs, hv⟩ := hf
      obtain ⟨od, J⟩ : ∃ od, PySem.W.InstAt s.heap a oe D od := by
        obtain ⟨oc, odi, oda, osl⟩ := oe
        obtain ⟨h1, h2⟩ := hz
        dsimp only at h1 h2 hv
        subst h1 h2 hv
        cases odi with
        | none => exact ⟨none, hget, rfl, rfl, trivial⟩
        | some dd =>
          obtain ⟨fs, hfs⟩ := hd dd rfl
          have hx : ObjOk X.prog X.w H s.heap dd (.xd fs) := I.hok dd _ hfs
          obtain ⟨mA, ⟨o, es, ep, ho, _⟩, _⟩ := hx
          exact ⟨some o, hget, rfl, rfl, ho⟩
      exact PySem.W.kia_tup (PySem.W.kitx_exc C.cl C.ga C.gg C.exC C.ac EK.hn EK.ht C.mo) I.kIn J h1 e (fun z => nomatch z) fun tk => ⟨.bl b, H, I.kept (t' := tk) fun _ _ z => z, rfl, q⟩
/-- x op y: an own method of x answers -/
def rOwnI (K : PySem.W.Frag) (C : Addr) (sp : Sp) : R2 := fun x y H Q => ∃ a dx fs tb, x = .ref a ∧ H a = some (.ins C dx fs) ∧ TyV K H y tb ∧ PySem.W.notFirst K C tb = true ∧ sp [x, y] H Q E0
theorem op_ownI {op : CmpOp} (hop : ∀ a b, compareOp op a b = richCompare op a b) (c : Mt X.prog X.w X.K X.mg X.base k C (cmpInfo op).2.1 sp []) (hr : Room j X.A) (hk : k ≤ j) : OpR X (compareOp op) (rOwnI X.K C sp) := by
  obtain ⟨f, fd, ps, ds, hc, hm, F, b, d⟩ := c.ex
  cases d
  intro pins s σ H x y v u Q I rx ry h
  obtain ⟨a, dx, fs, tb, rfl, ha, ht, hn, q⟩ := h
  cases (show v = Value.ref a from rx)
  obtain ⟨mA, J, _⟩ := ins_get I.hok ha
  obtain ⟨od, J, _⟩ := J.look
  obtain ⟨m, hF⟩ := I.fr
  rw [hop]
  refine PySem.W.cmp_K (op := op) (tb := tb) hr.units0 hF I.ok.mod.kin J (looks_ty I ry ht) hn hm.at_ hm.fn ?_
  refine wpAny_mono (run_fn (us := [.ref a, u]) (vs := [.ref a, y]) F (hr.mono hk) b .nil passL I (.cons rfl (.cons ry .nil)) q) (fun w s' z => ?_) fun _ _ x => x
  obtain ⟨z', H', I', rz, qz⟩ := z
  exact SlX.cmpback rz ⟨z', H', I', rz, qz⟩
end
end SI
set_option maxRecDepth 100000
set_option maxHeartbeats 4000000
/-! methods and classes called by keywords; a def in a suite that gets the error itself -/
namespace SI
open PySem PySem.Spec PyProof.Rows L2 NdefX
structure Mtd (P : Program) (w : World) (K : PySem.W.Frag) (mg : Str → Option Value) (base : Heap) (k : Nat) (C : Addr) (m qual : Str) (st : Stmt) (ps : List Str) (sp : Sp) : Prop where
  ex : ∃ (f : Addr) (fd : FuncData), Cls K C ∧ Meth K C m f ∧ FnOk P w K mg base (L2.CX P w) k f fd ps sp ∧ Fun K m qual st f fd ∧ Binds K fd ps []
structure Mkd (P : Program) (w : World) (K : PySem.W.Frag) (mg : Str → Option Value) (base : Heap) (k : Nat) (x : Str) (C : Addr) (qual : Str) (st : Stmt) (ps : List Str) (sp : Sp) : Prop where
  ex : ∃ (f : Addr) (fd : FuncData), Mk K C f ∧ FnOk P w K mg base (L2.CX P w) k f fd ps sp ∧ Fun K "__init__" qual st f fd ∧ mg x = some (.ref C) ∧ Binds K fd ps []
section
variable {P : Program} {w : World} {K : PySem.W.Frag} {mg : Str → Option Value} {base : Heap}
theorem Mtd.mt {k : Nat} {C : Addr} {m qual : Str} {st : Stmt} {ps : List Str} {sp : Sp} (c : Mtd P w K mg base k C m qual st ps sp) : Mt P w K mg base k C m sp [] := by
  obtain ⟨f, fd, hc, hm, F, _, b⟩ := c.ex
  exact ⟨f, fd, ps, [], hc, hm, F, b, .nil⟩
theorem Mkd.mkr {k : Nat} {x : Str} {C : Addr} {qual : Str} {st : Stmt} {ps : List Str} {sp : Sp} (c : Mkd P w K mg base k x C qual st ps sp) : Mkr P w K mg base k x C sp [] := by
  obtain ⟨f, fd, M, F, _, hm, b⟩ := c.ex
  exact ⟨f, fd, ps, [], M, F, hm, b, .nil⟩
theorem mtd_of {m qual : Str} {C : Addr} {st : Stmt} {N ps : List Str} {k : Nat} {sp : Sp} (D : MetAt K C m qual st ps) (S : FnScope N ps (defScope st)) (len : ∀ vs H Q E, sp vs H Q E → vs.length = ps.length)
    (hbody : ∀ (f : Addr) (cdv : Value) (A : Around) (outer : List Env) (s : Shared) (H : Hp) (vs : List V) (Q : VK) (E : XK), Room k (A.deeper (envOfC qual (defScope st) s.heap.objs.size f cdv)) → sp vs H Q E →
      ∃ t, PSs (cxOf (L2.CX P w) P w K mg base N qual (defScope st) f cdv A outer s H E) (defBody st) t ∧ t { nx := fun _ H' => Q .non H', rt := Q } (L2.start N vs) H) : Mtd P w K mg base (k + 1) C m qual st ps sp := by
  obtain ⟨f, fd, c, me, F, b⟩ := D.ex
  exact ⟨f, fd, c, me, F.okX S len (hbody f), F, b⟩
theorem mkd_of {x qual : Str} {C : Addr} {st : Stmt} {N ps : List Str} {k : Nat} {sp : Sp} (D : MakAt K mg x C qual st ps) (S : FnScope N ps (defScope st)) (len : ∀ vs H Q E, sp vs H Q E → vs.length = ps.length)
    (hbody : ∀ (f : Addr) (cdv : Value) (A : Around) (outer : List Env) (s : Shared) (H : Hp) (vs : List V) (Q : VK) (E : XK), Room k (A.deeper (envOfC qual (defScope st) s.heap.objs.size f cdv)) → sp vs H Q E →
      ∃ t, PSs (cxOf (L2.CX P w) P w K mg base N qual (defScope st) f cdv A outer s H E) (defBody st) t ∧ t { nx := fun _ H' => Q .non H', rt := Q } (L2.start N vs) H) : Mkd P w K mg base (k + 1) x C qual st ps sp := by
  obtain ⟨f, fd, M, F, hm, b⟩ := D.ex
  exact ⟨f, fd, M, F.okX S len (hbody f), F, hm, b⟩
end
theorem met_atX {K : PySem.W.Frag} {h : Heap} {x m qual : Str} {C : Addr} {st : Stmt} {ps : List Str} {f : Addr} {oc kV doc pm cdv ct : Value} {od an : Option Addr} {osl : Array (Option Value)} (_X : K.In h) (hb : BindOk m qual st ps)
    (_a : PySem.W.nsIn K mainGlobals x = some (some (.ref C))) (hC : Cls K C)
    (i : PySem.W.findIn K (.ref C) m = some (some (.ref f))) (n : PySem.W.isFn K (.ref f) = true)
    (l : K.lookup f = some ⟨oc, od, .func (PySem.W.fnOf m qual (defArgs st) (defBody st) (defScope st) .none kV doc pm an cdv ct), osl⟩)
    (c : PySem.W.codeIn K cdv qual = true) (k : PySem.W.keepIn K (.ref f) = true) {R : Prop} (r : MetAt K C m qual st ps → R) : R := met_at hC hb i n l c k r
/-- o.m(k = v, ..): ks the keywords in the call's order, g puts their values in the parameters' order -/
def tMethK (C : Addr) (m : Str) (n : Nat) (sp : Sp) (gV : List V → List V) (E : XK) (ta : TE) (tk : TA) : TE := fun σ H Q => ta σ H fun x H1 => ∃ a dx fs, x = .ref a ∧ H1 a = some (.ins C dx fs) ∧ fs.lookup m = none ∧
  tk σ H1 fun zs H2 => zs.length = n ∧ sp (x :: gV zs) H2 Q E
section
variable {X : Cx} {k j : Nat} {C : Addr} {x m qual : Str} {st : Stmt} {ps ks : List Str} {sp : Sp} {p pos apos : Pos} {e o : Expr} {es : List Expr} {kws : List Keyword} {ta : TE} {t tk : TA} {g : {α : Type} → List α → List α}
theorem pe_mtK0 {pl : Sem Bool} (c : Mtd X.prog X.w X.K X.mg X.base k C m qual st ps sp) (hr : Room j X.A) (hk : k ≤ j) (he : PE X o ta) (hkw : PK X kws tk)
    (hb : ∀ (kV doc pm : Value) (an : Option Addr) (cdv ct sv : Value) (ws : List Value), ws.length = ks.length → bindArgs (PySem.W.fnOf m qual (defArgs st) (defBody st) (defScope st) .none kV doc pm an cdv ct) ⟨[sv], ks.zip ws⟩ = pure (ps.zip (sv :: g ws)))
    (hrel : ∀ {zs : List V} {ws : List Value}, Vals zs ws → Vals (g zs) (g ws))
    (hall : (backToKw pos (keywordEach kws X.env)).all (·.1.isSome) = true := by rfl) (hks : (backToKw pos (keywordEach kws X.env)).filterMap (·.1) = ks := by rfl)
    (hpl : ((backTo pos (starEach [] X.env)).any (·.1) || (backToKw pos (keywordEach kws X.env)).any (·.1.isNone)) = false := by rfl)
    (ht : eval (.Call (.Attribute o m apos) [] kws pos) X.env = (do
      let ov ← eval o X.env
      standAt apos.atName
      let (f, first) ← holding [ov] (getMethod ov m pl)
      callWith pos f first (backTo pos (starEach [] X.env)) (backToKw pos (keywordEach kws X.env))) := by rfl) :
    PE X (.Call (.Attribute o m apos) [] kws pos) (tMethK C m ks.length sp g E0 ta tk) := by
  obtain ⟨f, fd, hc, hm, F, Fn, _⟩ := c.ex
  refine ⟨fun pins s σ H Q I h => PySem.W.methodCall_KW (pl := pl) (thn (he.run pins s σ H _ I h) fun u s1 ⟨x, H1, I1, rx, a, dx, fs, ex, ea, l, q⟩ => ?_) ht⟩
  subst ex
  obtain rfl : u = Value.ref a := rx
  refine getmeth_ok I1 ea hc hm l (PySem.W.callWith_KW0 (first := [.ref a]) (h₀ := X.base) I.ok.mod.kin hm.kp hall (thn (hkw.run pos pins s1 σ H1 _ I1 q) fun ws s2 ⟨zs, H2, I2, rz, l2, q2⟩ => ⟨I2.kIn, ?_⟩) hpl)
  rw [hks]
  obtain ⟨oc, od, kV, doc, pm, an, cdv, ct, osl, rfl, lk, hcd⟩ := Fn.ex
  have b : KBn X.K (PySem.W.fnOf m qual (defArgs st) (defBody st) (defScope st) .none kV doc pm an cdv ct) ps 1 ks (fun us ws => us ++ g ws) (fun vs zs => vs ++ g zs) :=
    ⟨fun s us ws _ l1 l2 => by
      match us, l1 with
      | [sv], _ => exact BindsTo.of_eq (hb kV doc pm an cdv ct sv ws l2), fun r1 r => r1.append (hrel r)⟩
  exact run_fnN (us := [.ref a]) (vs := [.ref a]) (F.mono hk) hr b passL I2 (.cons rfl .nil) rz rfl l2 q2
/-- C(k = v, ..) -/
theorem pe_mkK0 (c : Mkd X.prog X.w X.K X.mg X.base k x C qual st ps sp) (hr : Room j X.A) (hk : k + 1 ≤ j) (hg : Gl X x) (hkw : PK X kws tk)
    (hb : ∀ (kV doc pm : Value) (an : Option Addr) (cdv ct sv : Value) (ws : List Value), ws.length = ks.length → bindArgs (PySem.W.fnOf "__init__" qual (defArgs st) (defBody st) (defScope st) .none kV doc pm an cdv ct) ⟨[sv], ks.zip ws⟩ = pure (ps.zip (sv :: g ws)))
    (hrel : ∀ {zs : List V} {ws : List Value}, Vals zs ws → Vals (g zs) (g ws))
    (hall : (backToKw pos (keywordEach kws X.env)).all (·.1.isSome) = true := by rfl) (hks : (backToKw pos (keywordEach kws X.env)).filterMap (·.1) = ks := by rfl) (hdb : (x == ("__debug__" : Str)) = false := by decide)
    (hpl : ((backTo pos (starEach [] X.env)).any (·.1) || (backToKw pos (keywordEach kws X.env)).any (·.1.isNone)) = false := by rfl) :
    PE X (.Call (.Name x p) [] kws pos) (tMakeK C 0 ks.length sp (fun vs zs => vs ++ g zs) E0 tNil tk) := by
  obtain ⟨f, fd, M, F, Fn, hm, _⟩ := c.ex
  obtain ⟨oc, od, kV, doc, pm, an, cdv, ct, osl, rfl, lk, hcd⟩ := Fn.ex
  have b : KBn X.K (PySem.W.fnOf "__init__" qual (defArgs st) (defBody st) (defScope st) .none kV doc pm an cdv ct) ps 1 ks (fun us ws => us ++ g ws) (fun vs zs => vs ++ g zs) :=
    ⟨fun s us ws _ l1 l2 => by
      match us, l1 with
      | [sv], _ => exact BindsTo.of_eq (hb kV doc pm an cdv ct sv ws l2), fun r1 r => r1.append (hrel r)⟩
  exact pe_makeK0 M F (hr.mono hk) hg hm b passL hkw hall hks hdb hpl
/-- a def in a suite, that reads the error it is given -/
theorem pe_cWE {a : Addr} {oe : Obj} {cls : Value} {d : Option Addr} {pn : List (Addr × Obj)} {sp' : Addr → Value → Option Addr → Sp} {q : Pos} (hz : Zc cls d oe) (hf : ∃ vs, oe.data = .fields vs)
    (c : ClW X.prog X.w X.K X.mg X.base k x (fun p vs H Q E => ∃ cls d, Zc cls d p.2 ∧ (∃ vs, p.2.data = .fields vs) ∧ sp' p.1 cls d vs H Q E)) (hr : Room j X.A) (hk : k ≤ j) (hg : Gl X x) (ha : PA (X.suite a ((a, oe) :: pn)) (e :: es) t)
    (hdb : (x == ("__debug__" : Str)) = false := by decide) (he : starEach (e :: es) X.env = (false, eval e X.env) :: starEach es X.env := by rfl) (hpl : (backTo pos (starEach es X.env)).any (·.1) = false := by rfl) :
    PE (X.suite a ((a, oe) :: pn)) (.Call (.Name x q) (e :: es) [] pos) (tCallS (sp' a cls d) (fun _ => E0) t) := by
  obtain ⟨f, fd, ps, F, hm, kp, b⟩ := c.ex
  refine ⟨fun pins s σ H Q I h => wpAny_Call_Name_kw (ld_glob I hg hm ?_ hdb)⟩
  exact PySem.W.callWith_K (h₀ := X.base) I.ok.mod.kin kp (thn (ha.run pos pins s σ H _ I h) fun us s1 ⟨vs, H1, I1, r, q⟩ => ⟨I1.kIn, run_fnW (X := X.suite a ((a, oe) :: pn)) (E := fun _ => E0) (p := (a, oe)) F ((room_mark hr _).mono hk) List.mem_cons_self b passA0 I1 r ⟨cls, d, hz, hf, q⟩⟩) he hpl
end
end SI
set_option maxRecDepth 100000
set_option maxHeartbeats 4000000
/-! defs with defaults under their names -/
namespace SI
open PySem PySem.Spec PyProof.Rows L2 NdefX
structure DefD (K : PySem.W.Frag) (mg : Str → Option Value) (x : Str) (st : Stmt) (dvs : List V) : Prop where
  ex : ∃ (f : Addr) (fd : FuncData), FunD K x x (defArgs st) (defBody st) (defScope st) dvs [] f fd ∧ mg x = some (.ref f)
structure CdD (P : Program) (w : World) (K : PySem.W.Frag) (mg : Str → Option Value) (base : Heap) (k : Nat) (x : Str) (st : Stmt) (ps : List Str) (sp : Sp) (dvs : List V) : Prop where
  ex : ∃ (f : Addr) (fd : FuncData), FnOk P w K mg base (L2.CX P w) k f fd ps sp ∧ FunD K x x (defArgs st) (defBody st) (defScope st) dvs [] f fd ∧ mg x = some (.ref f)
section
variable {P : Program} {w : World} {K : PySem.W.Frag} {mg : Str → Option Value} {base h : Heap}
theorem cdd_of {x : Str} {st : Stmt} {N ps : List Str} {k : Nat} {sp : Sp} {dvs : List V} (D : DefD K mg x st dvs) (S : FnScope N ps (defScope st)) (len : ∀ vs H Q E, sp vs H Q E → vs.length = ps.length)
    (hbody : ∀ (f : Addr) (cdv : Value) (A : Around) (outer : List Env) (s : Shared) (H : Hp) (vs : List V) (Q : VK) (E : XK), Room k (A.deeper (envOfC x (defScope st) s.heap.objs.size f cdv)) → sp vs H Q E →
      ∃ t, PSs (cxOf (L2.CX P w) P w K mg base N x (defScope st) f cdv A outer s H E) (defBody st) t ∧ t { nx := fun _ H' => Q .non H', rt := Q } (L2.start N vs) H) : CdD P w K mg base (k + 1) x st ps sp dvs := by
  obtain ⟨f, fd, F, hm⟩ := D.ex
  exact ⟨f, fd, F.ok S len (hbody f), F, hm⟩
/-- called with all but the last dvs.length - j values -/
theorem CdD.cl {k : Nat} {x : Str} {st : Stmt} {ps : List Str} {sp : Sp} {dvs : List V} (c : CdD P w K mg base k x st ps sp dvs) (n j : Nat) (hd : dvs ≠ []) (hn : n + (dvs.length - j) = ps.length)
    (hb : ∀ (T : Addr) (kV doc pm : Value) (an : Option Addr) (cdv ct : Value) (us its : List Value), us.length = n → its.length = dvs.length →
      ∃ k, bindArgs (PySem.W.fnOf x x (defArgs st) (defBody st) (defScope st) (.ref T) kV doc pm an cdv ct) ⟨us, []⟩ = seqItems? (.ref T) >>= k ∧ k (some its.toArray) = pure (ps.zip (us ++ its.drop j))) : Cl P w K mg base k x sp (dvs.drop j) := by
  obtain ⟨f, fd, F, Fn, hm⟩ := c.ex
  obtain ⟨ds, hv, b⟩ := Fn.binds1 n j hd hn hb
  exact ⟨f, fd, ps, ds, F, hm, Fn.kp, b, hv⟩
theorem defd_at {x : Str} {st : Stmt} {dvs : List V} {f T : Addr} {oc kV doc pm cdv ct toc : Value} {od an tod : Option Addr} {osl tsl : Array (Option Value)} {its : List Value} {n : Nat} (X : K.In h) (G : h.Ns mainGlobals mg)
    (a : PySem.W.nsIn K mainGlobals x = some (some (.ref f))) (l : K.lookup f = some ⟨oc, od, .func (PySem.W.fnOf x x (defArgs st) (defBody st) (defScope st) (.ref T) kV doc pm an cdv ct), osl⟩)
    (c : PySem.W.codeIn K cdv x = true) (k : PySem.W.keepIn K (.ref f) = true) (t : K.lookup T = some ⟨toc, tod, .seq its.toArray n, tsl⟩) (hd : dvs ≠ []) (hv : Vals dvs its) {R : Prop} (r : DefD K mg x st dvs → R) : R :=
  r ⟨f, _, ⟨⟨oc, od, .ref T, kV, doc, pm, an, cdv, ct, osl, rfl, l, c, .inr ⟨hd, T, _, its, n, rfl, t, rfl, hv⟩, .inl rfl⟩, k⟩, PySem.W.mg_of X G a⟩
end
section
variable {X : Cx} {k j : Nat} {x : Str} {st : Stmt} {ps ks : List Str} {sp : Sp} {dvs : List V} {p pos : Pos} {kws : List Keyword} {tk : TA} {g : {α : Type} → List α → List α → List α}
/-- f(k = v, ..): g puts the defaults and the keywords' values in the parameters' order -/
theorem pe_cKD (c : CdD X.prog X.w X.K X.mg X.base k x st ps sp dvs) (hr : Room j X.A) (hk : k ≤ j) (hg : Gl X x) (hkw : PK X kws tk) (hd : dvs ≠ [])
    (hrel : ∀ {ds zs : List V} {its ws : List Value}, Vals ds its → Vals zs ws → Vals (g ds zs) (g its ws))
    (hb : ∀ (T : Addr) (kV doc pm : Value) (an : Option Addr) (cdv ct : Value) (us its ws : List Value), us.length = 0 → its.length = dvs.length → ws.length = ks.length →
      ∃ k, bindArgs (PySem.W.fnOf x x (defArgs st) (defBody st) (defScope st) (.ref T) kV doc pm an cdv ct) ⟨us, ks.zip ws⟩ = seqItems? (.ref T) >>= k ∧ k (some its.toArray) = pure (ps.zip (us ++ g its ws)))
    (hall : (backToKw pos (keywordEach kws X.env)).all (·.1.isSome) = true := by rfl) (hks : (backToKw pos (keywordEach kws X.env)).filterMap (·.1) = ks := by rfl)
    (hdb : (x == ("__debug__" : Str)) = false := by decide) (hpl : ((backTo pos (starEach [] X.env)).any (·.1) || (backToKw pos (keywordEach kws X.env)).any (·.1.isNone)) = false := by rfl) :
    PE X (.Call (.Name x p) [] kws pos) (tK0 ks.length sp (g dvs) tk) := by
  obtain ⟨f, fd, F, Fn, hm⟩ := c.ex
  obtain ⟨its, b⟩ := Fn.kbindsD 0 ks (fun vs ds zs => vs ++ g ds zs) hd (fun r1 r2 r3 => r1.append (hrel r2 r3)) hb
  refine ⟨fun pins s σ H Q I h => wpAny_Call_Name_kw (ld_glob I hg hm ?_ hdb)⟩
  refine PySem.W.callWith_KW0 (h₀ := X.base) I.ok.mod.kin Fn.kp hall (thn (hkw.run pos pins s σ H _ I h) fun ws s2 ⟨zs, H2, I2, rz, l2, q2⟩ => ⟨I2.kIn, ?_⟩) hpl
  rw [hks]
  exact run_fnN (us := []) (vs := []) (F.mono hk) hr b passL I2 .nil rz rfl l2 q2
end
end SI
set_option maxRecDepth 100000
set_option maxHeartbeats 4000000
/-! tuple * int, 0 and 1 too -/
namespace SI
open PySem PySem.Spec PyProof.Rows L2
theorem tuple_mul1 (l : Addr) (items : Array Value) (n : Nat) (dd : Option Addr) (sl : Array (Option Value)) (u : Tok) :
    Meets (Builtin.«tuple.__mul__» ⟨[.ref l, .int 1 u], []⟩) (fun _ R s => s.heap.get? l = some { cls := .type "tuple", dict := dd, data := .seq items n, slots := sl } ∧ R (.ok (.ret (.ref l))) s) :=
  .of_wp fun prog w A R s h => by
    obtain ⟨hp, g, d, tk, os⟩ := s
    obtain ⟨hl, h⟩ := h
    have f1 := AutoSeq1.idx_int
    have c1 : (items.isEmpty || (1 : Int) == 1) = true := by simp
    wp_walk using wpAny_loadPart' hl
    repeat (first
      | (refine wpAny_ite_false (decide_eq_false (by decide)) ?_; wp_walk using wpAny_loadPart' hl)
      | (refine wpAny_ite_true (decide_eq_true (by rw [c1])) ?_; wp_walk using wpAny_loadPart' hl))
    exact ⟨_, rfl, h⟩
theorem tuple_mul0 (l : Addr) (items : Array Value) (n : Nat) (dd : Option Addr) (sl : Array (Option Value)) (u : Tok) (hi : items.isEmpty = false) :
    Meets (Builtin.«tuple.__mul__» ⟨[.ref l, .int 0 u], []⟩) (fun _ R s => s.heap.get? l = some { cls := .type "tuple", dict := dd, data := .seq items n, slots := sl } ∧
      R (.ok (.ret (Value.ref s.heap.objs.size))) { s with heap := s.heap.push { cls := Value.type "tuple", data := Data.seq #[] }, toks := s.toks }) :=
  .of_wp fun prog w A R s h => by
    obtain ⟨hp, g, d, tk, os⟩ := s
    obtain ⟨hl, h⟩ := h
    have f1 := AutoSeq1.idx_int
    have c1 : (items.isEmpty || (0 : Int) == 1) = false := by rw [hi]; rfl
    have c2 : (decide ((0 : Int) ≤ 0) || items.isEmpty) = true := by simp
    wp_walk using wpAny_loadPart' hl
    repeat (first
      | (refine wpAny_ite_false (decide_eq_false (by decide)) ?_; wp_walk using wpAny_loadPart' hl)
      | (refine wpAny_ite_false (decide_eq_false (by rw [c1]; exact Bool.false_ne_true)) ?_; wp_walk using wpAny_loadPart' hl)
      | (refine wpAny_ite_true (decide_eq_true (by rw [c2])) ?_; wp_walk using wpAny_loadPart' hl))
    exact ⟨_, rfl, h⟩
def rRepS (K : PySem.W.Frag) : R2 := fun x y H Q => ∃ l k xs, x = .ref l ∧ y = .int k ∧ SqT K H l xs ∧ xs ≠ [] ∧ 0 ≤ k ∧ k ≤ 1000 ∧ xs.length ≤ 1000 ∧ (k = 1 → Q (.ref l) H) ∧ (k ≠ 1 → ∀ p, H p = none → Q (.ref p) (upd H p (.tup (List.replicate k.toNat xs).flatten)))
section
variable {X : Cx}
theorem op_repS : OpR X (binaryOp .Mult) (rRepS X.K) := by
  intro pins s σ H x y v u Q I rx ry h
  obtain ⟨l, k, xs, rfl, rfl, hT, hne, h1, h2, hz, q1, q⟩ := h
  by_cases c2 : 2 ≤ k
  · exact op_repT pins s σ H _ _ v u Q I rx ry ⟨l, k, xs, rfl, rfl, hT, hne, c2, h2, hz, q (by omega)⟩
  cases rx
  obtain ⟨t, rfl⟩ := ry
  obtain ⟨its, r, ⟨⟨cls, dd, data, sl⟩, ho, hc, n, hd⟩, hs⟩ := I.tuple hT
  simp only at hc hd
  subst hc hd
  have hle : its.length = xs.length := r.length.symm
  have hn : its ≠ [] := fun e => hne (by
    rw [e] at hle
    exact List.eq_nil_of_length_eq_zero hle.symm)
  have hi : its.toArray.isEmpty = false := by
    cases its with
    | nil => exact absurd rfl hn
    | cons a b => rfl
  by_cases c1 : k = 1
  · subst c1
    exact wpAny_binaryOp_repeat_ref (T := "tuple") (U := "int") (by decide) ⟨_, ho, rfl⟩ (fun s' => typeIs_int s' 1 t) noFill_tuple_mul F.fills_int_mul F.slot_int_rmul repeat_tuple F.slot_int_index.lookup
      (call_meets F.slot_int_rmul (typeIs_int s 1 t) F.entry_int_rmul (F.args_int_rmul_2 _ _) (int_rmul_tuple 1 t l its.toArray n dd sl)
        ⟨ho, rfl, ⟨_, ho, rfl⟩, call_meets F.slot_tuple_mul ⟨_, ho, rfl⟩ F.entry_tuple_mul (F.args_tuple_mul_2 _ _) (tuple_mul1 l its.toArray n dd sl t) ⟨ho, ⟨.ref l, H, I, rfl, q1 rfl⟩⟩⟩)
  · obtain rfl : k = 0 := by omega
    exact wpAny_binaryOp_repeat_ref (T := "tuple") (U := "int") (by decide) ⟨_, ho, rfl⟩ (fun s' => typeIs_int s' 0 t) noFill_tuple_mul F.fills_int_mul F.slot_int_rmul repeat_tuple F.slot_int_index.lookup
      (call_meets F.slot_int_rmul (typeIs_int s 0 t) F.entry_int_rmul (F.args_int_rmul_2 _ _) (int_rmul_tuple 0 t l its.toArray n dd sl)
        ⟨ho, rfl, ⟨_, ho, rfl⟩, call_meets F.slot_tuple_mul ⟨_, ho, rfl⟩ F.entry_tuple_mul (F.args_tuple_mul_2 _ _) (tuple_mul0 l its.toArray n dd sl t hi)
          ⟨ho, ⟨.ref s.heap.objs.size, _, I.laid (t' := s.toks) (o := .tup []) (fun b ob q => Heap.get?_push_of_some _ q) (Nat.le_refl _) ⟨by show 0 ≤ sizeLine; decide, [], .nil, IsTup.new _ _⟩, rfl, q (by decide) _ (I.hok.fresh (Nat.le_refl _))⟩⟩⟩)
end
end SI
set_option maxRecDepth 100000
set_option maxHeartbeats 4000000
/-! xs[i] op= e of a list -/
namespace SI
open PySem PySem.Spec PyProof.Rows L2
theorem get_list {X : Cx} : PGet X (fun o i H Q => ∃ (p : Addr) (xs : List V) (k : Int) (z : V), o = .ref p ∧ i = .int k ∧ 0 ≤ k ∧ SqL X.K H p xs ∧ atI xs k = some z ∧ Q z H) := by
  intro pins s σ H o i ov iv Q I rx ry h
  obtain ⟨p, xs, k, z, rfl, rfl, h0, hq, he, q⟩ := h
  cases rx
  obtain ⟨t, rfl⟩ := ry
  obtain ⟨its, r, pl, hz⟩ := I.list hq
  obtain ⟨j, h1, h2, h3, h4, h5⟩ := atI_get he
  obtain ⟨w, ew, rw'⟩ := r.get h2
  have hl := r.length
  have hn := line63
  have hj : k.toNat = j := by
    rw [seqIndex_of h0 h5] at h1
    exact Option.some.inj h1
  exact wpAny_getItem_list pl.isList h0 (by omega) (by rw [hj]; simpa using ew) ⟨z, H, I, rw', q⟩
end SI
set_option maxRecDepth 100000
set_option maxHeartbeats 4000000
namespace K14
open PySem L2 SI
def top (i : Nat) : Stmt := PySem.Challenge.pw_pebblesreach_k14_tree_sure.main.body.getD i (.Pass ⟨0, 0, 0, 0⟩)
abbrev sCheckCounts : Stmt := top 12
abbrev sCheckEntries : Stmt := top 13
abbrev sPebblesInit : Stmt := inClass (top 15) 0
abbrev sHeights : Stmt := top 18
abbrev sMainChildren : Stmt := top 19
abbrev sPathDown : Stmt := top 20
abbrev sPaths : Stmt := top 21
abbrev sPathProduct : Stmt := top 22
abbrev sCheckWanted : Stmt := top 24
abbrev sLine : Stmt := top 25
abbrev sTreeEnough : Stmt := top 26
abbrev sTreeWorst : Stmt := top 27
abbrev sCheckTreeWidth : Stmt := top 29
abbrev sTreeUps : Stmt := top 30
abbrev sTreeMost : Stmt := top 31
abbrev sCheckEdges : Stmt := top 38
abbrev sTreeInit : Stmt := inClass (top 39) 0
abbrev sTreeChildren : Stmt := inClass (top 39) 1
abbrev sLTakeCells : Stmt := top 41
abbrev sLDraw : Stmt := top 42
abbrev sLSame : Stmt := top 43
abbrev sLParentRow : Stmt := top 44
abbrev sLPriceRow : Stmt := top 45
abbrev sLHeightRow : Stmt := top 46
abbrev sLLineOf : Stmt := top 47
abbrev sLWorstRow : Stmt := top 48
abbrev sLBrought : Stmt := top 49
abbrev sLSpread : Stmt := top 50
abbrev sLNear : Stmt := top 51
abbrev sLTry : Stmt := top 52
abbrev sLIsWorst : Stmt := top 53
abbrev sLBrings : Stmt := top 54
abbrev sLSure : Stmt := top 55
abbrev sLFirst : Stmt := top 56
abbrev sLaw : Stmt := top 57
abbrev sBadCountInit : Stmt := inClass (top 3) 0
abbrev sNotPebblesInit : Stmt := inClass (top 4) 0
abbrev sNoNodeInit : Stmt := inClass (top 5) 0
abbrev sWrongWidthInit : Stmt := inClass (top 7) 0
abbrev sBadParentInit : Stmt := inClass (top 33) 0
abbrev sBadPriceInit : Stmt := inClass (top 34) 0
structure Txt (P : Program) (w : World) (K : PySem.W.Frag) (mg : Str → Option Value) (base : Heap) (Ad1 Ad2 Ad3 Ad4 Ad5 Ad6 Ad9 Ad10 Ad11 Ad12 : Addr) : Prop where
  b_len : mg "len" = none
  b_int : mg "int" = none
  b_tuple : mg "tuple" = none
  b_list : mg "list" = none
  b_range : mg "range" = none
  b_isinstance : mg "isinstance" = none
  b_bool : mg "bool" = none
  b_ValueError : mg "ValueError" = none
  b_enumerate : mg "enumerate" = none
  b_max : mg "max" = none
  b_min : mg "min" = none
  b_sum : mg "sum" = none
  b_str : mg "str" = none
  c_MOST_PRICE : ∃ t, mg "MOST_PRICE" = some (.int 31 t)
  c_LEAST_PRICE : ∃ t, mg "LEAST_PRICE" = some (.int 2 t)
  c_MOST_TREE_NODES : ∃ t, mg "MOST_TREE_NODES" = some (.int 60 t)
  c_MOST_MANY : ∃ t, mg "MOST_MANY" = some (.int 1000000 t)
  c_MOST : ∃ t, mg "MOST" = some (.int (10 ^ 120) t)
  c_MOST_NODES : ∃ t, mg "MOST_NODES" = some (.int 64 t)
  rBadCount : Rs P w K mg base "BadCount" Ad2 (mk2 "what" "many" fun v => ∃ t : Str, v = .str t ∧ t.length ≤ 1000)
  rNotPebbles : Rs P w K mg base "NotPebbles" Ad3 (mk1 "at")
  rNoNode : Rs P w K mg base "NoNode" Ad4 (mk1 "node")
  rWrongWidth : Rs P w K mg base "WrongWidth" Ad6 (mk2 "have" "need" fun _ => True)
  rBadParent : Rs P w K mg base "BadParent" Ad9 (mk1 "at")
  rBadPrice : Rs P w K mg base "BadPrice" Ad10 (mk1 "at")
  m_Tree : MakAt K mg "Tree" Ad11 "Tree.__init__" sTreeInit ["self", "parents", "prices"]
  lTree : Cls K Ad11
  nTree_nodes : NoAttr K Ad11 "nodes"
  nTree_parents : NoAttr K Ad11 "parents"
  nTree_prices : NoAttr K Ad11 "prices"
  m_Pebbles : MakAt K mg "Pebbles" Ad12 "Pebbles.__init__" sPebblesInit ["self", "counts"]
  lPebbles : Cls K Ad12
  nPebbles_counts : NoAttr K Ad12 "counts"
  nPebbles_nodes : NoAttr K Ad12 "nodes"
  nPebbles_size : NoAttr K Ad12 "size"
  d_check_counts : DefAt K mg "check_counts" sCheckCounts ["many"]
  d_check_entries : DefAt K mg "check_entries" sCheckEntries ["counts"]
  d_heights : DefAt K mg "heights" sHeights ["tree"]
  d_main_children : DefAt K mg "main_children" sMainChildren ["tree"]
  d_path_down : DefAt K mg "path_down" sPathDown ["main", "top", "second"]
  d_paths : DefAt K mg "paths" sPaths ["tree"]
  d_path_product : DefAt K mg "path_product" sPathProduct ["tree", "path"]
  d_check_wanted : DefAt K mg "check_wanted" sCheckWanted ["many"]
  d_line : DefAt K mg "line" sLine ["tree"]
  d_tree_enough : DefD K mg "tree_enough" sTreeEnough [.int 1]
  d_tree_worst : DefD K mg "tree_worst" sTreeWorst [.int 1]
  d_check_tree_width : DefAt K mg "check_tree_width" sCheckTreeWidth ["tree", "placing"]
  d_tree_ups : DefAt K mg "tree_ups" sTreeUps ["tree", "placing"]
  d_tree_most : DefAt K mg "tree_most" sTreeMost ["tree", "placing"]
  d_check_edges : DefAt K mg "check_edges" sCheckEdges ["parents", "prices"]
  d_Tree_children : MetAt K Ad11 "children" "Tree.children" sTreeChildren ["self", "node"]
  d__law_take_cells : DefAt K mg "_law_take_cells" sLTakeCells ["script"]
  d__law_draw : DefAt K mg "_law_draw" sLDraw ["pool", "many"]
  d__law_same : DefAt K mg "_law_same" sLSame ["told", "due"]
  d__law_parent_row : DefAt K mg "_law_parent_row" sLParentRow ["pool", "edges"]
  d__law_price_row : DefAt K mg "_law_price_row" sLPriceRow ["pool", "edges"]
  d__law_height_row : DefAt K mg "_law_height_row" sLHeightRow ["parents", "prices"]
  d__law_line_of : DefAt K mg "_law_line_of" sLLineOf ["parents", "prices"]
  d__law_worst_row : DefAt K mg "_law_worst_row" sLWorstRow ["parents", "prices", "many"]
  d__law_brought : DefAt K mg "_law_brought" sLBrought ["parents", "prices", "counts"]
  d__law_spread : DefAt K mg "_law_spread" sLSpread ["pool", "nodes", "total"]
  d__law_near : DefAt K mg "_law_near" sLNear ["pool", "counts"]
  d__law_try : DefAt K mg "_law_try" sLTry ["tree", "many"]
  d__law_is_worst : DefAt K mg "_law_is_worst" sLIsWorst ["told", "counts"]
  d__law_brings : DefAt K mg "_law_brings" sLBrings ["tree", "parents", "prices", "counts", "least"]
  d__law_sure : DefAt K mg "_law_sure" sLSure ["pool", "tree", "parents", "prices", "many"]
  d__law_first : DefAt K mg "_law_first" sLFirst ["tree", "parents", "prices"]
  d_law : DefAt K mg "law" sLaw ["script"]
  gPebbleError : mg "PebbleError" = some (.ref Ad1)
  gBadCount : mg "BadCount" = some (.ref Ad2)
  gNotPebbles : mg "NotPebbles" = some (.ref Ad3)
  gNoNode : mg "NoNode" = some (.ref Ad4)
  gUnlikeWidths : mg "UnlikeWidths" = some (.ref Ad5)
  gWrongWidth : mg "WrongWidth" = some (.ref Ad6)
  gBadParent : mg "BadParent" = some (.ref Ad9)
  gBadPrice : mg "BadPrice" = some (.ref Ad10)
  gTree : mg "Tree" = some (.ref Ad11)
  gPebbles : mg "Pebbles" = some (.ref Ad12)
  ek : ErrK K
  eBadCount : ErrC K Ad2
  fBadCount_what : PySem.W.findIn K (.ref Ad2) "what" = some none
  fBadCount_many : PySem.W.findIn K (.ref Ad2) "many" = some none
  xBadCount_PebbleError : PySem.W.exmOne K (.ref Ad2) (.ref Ad1) = some true
  tBadCount_BadCount : PySem.W.kitOne K (.ref Ad2) (.ref Ad2) = some true
  tBadCount_NotPebbles : PySem.W.kitOne K (.ref Ad2) (.ref Ad3) = some false
  tBadCount_WrongWidth : PySem.W.kitOne K (.ref Ad2) (.ref Ad6) = some false
  iTree : SlX.SIsi K Ad11
  iPebbles : SlX.SIsi K Ad12
end K14
set_option maxRecDepth 100000
set_option maxHeartbeats 4000000
set_option exponentiation.threshold 20000
namespace K14
open PySem L2 SI
/-- all but the object at W stays -/
def But (W : Addr) (H H' : Hp) : Prop := ∀ b o, b ≠ W → H b = some o → H' b = some o
theorem But.trans {W : Addr} {H H' H'' : Hp} (s : But W H H') (s' : But W H' H'') : But W H H'' := fun b o n e => s' b o n (s b o n e)
theorem But.of {W : Addr} {H H' : Hp} (s : Same H H') : But W H H' := fun b o _ e => s b o e
theorem But.upd {W : Addr} {H : Hp} {o : HO} : But W H (L2.upd H W o) := fun b u n e => by rw [upd_ne n]; exact e
theorem cdiv_small {n : Int} (h0 : 0 < n) (h1 : n ≤ 10 ^ 130) : CDivW 0 n := ⟨h0, by
  have e : n.natAbs < 2 ^ 500 := by
    have : (10 : Int) ^ 130 < 2 ^ 500 := by decide +kernel
    omega
  exact Nat.lt_of_lt_of_le (PySem.Flt.log2_lt_of (by decide) e) (by decide)⟩
theorem cmul_small {i j : Int} (h0 : i.natAbs < 2 ^ 10000) (h1 : j.natAbs < 2 ^ 10000) : CMulW i j := wide_mul h0 h1 (by decide) (by decide) (by decide)
theorem abs_small {n : Int} (h0 : -(10 ^ 200) ≤ n) (h1 : n ≤ 10 ^ 200) : n.natAbs < 2 ^ 10000 := by
  have h : (10 : Int) ^ 200 < 2 ^ 700 := by decide +kernel
  have h2 : (2 : Nat) ^ 700 ≤ 2 ^ 10000 := Nat.pow_le_pow_right (by decide) (by decide)
  refine Nat.lt_of_lt_of_le ?_ h2
  omega
/-- the pool of the law's draws; b more and it is still small -/
def PoolB (H : Hp) (p : Addr) (b : Nat) : Prop := ∃ (z : Int) (ns : List Int), H p = some (.lst ((z :: ns).map V.int)) ∧ 0 ≤ z ∧ z ≤ 1000003 + b ∧ ns.length ≤ 64
@[irreducible] def spDraw : Sp := fun vs H Q _ => ∃ (p : Addr) (n : Int) (b : Nat), vs = [.ref p, .int n] ∧ PoolB H p b ∧ b ≤ 10 ^ 100 ∧ CDivW 0 n ∧ ∀ d H', But p H H' → PoolB H' p (b + 1) → 0 ≤ d → d < n → Q (.int d) H'
theorem draw_of {H : Hp} {p : Addr} {n : Int} {b : Nat} {Q : VK} {E : XK} (hp : PoolB H p b) (hb : b ≤ 10 ^ 100) (h0 : 0 < n) (h1 : n ≤ 10 ^ 130) (k : ∀ d H', But p H H' → PoolB H' p (b + 1) → 0 ≤ d → d < n → Q (.int d) H') : spDraw [.ref p, .int n] H Q E := by
  unfold spDraw
  exact ⟨p, n, b, rfl, hp, hb, cdiv_small h0 h1, k⟩
section
variable {P : Program} {w : World} {K : PySem.W.Frag} {mg : Str → Option Value} {base : Heap} {Ad1 Ad2 Ad3 Ad4 Ad5 Ad6 Ad9 Ad10 Ad11 Ad12 : Addr}
theorem scLDraw : FnScope ["pool", "many", "number"] ["pool", "many"] (defScope sLDraw) := ⟨rfl, rfl, rfl, by decide +kernel, rfl, by decide +kernel, by decide +kernel⟩
theorem ok_LDraw (T : Txt P w K mg base Ad1 Ad2 Ad3 Ad4 Ad5 Ad6 Ad9 Ad10 Ad11 Ad12) : Cl P w K mg base 1 "_law_draw" spDraw [] := by
  refine cl_of T.d__law_draw scLDraw (fun vs H Q E h => ?_) fun f cdv A outer s H vs Q E hr h => ?_
  · unfold spDraw at h
    obtain ⟨p, n, b, rfl, _⟩ := h
    rfl
  · unfold spDraw at h
    obtain ⟨p, n, b, rfl, ⟨z, ns, hp, z0, z1, hl⟩, hb, hn, k⟩ := h
    refine ⟨_, (C8.pss_cut (ps_if (pt_cmpR op_eq (pe_callB call_len_seq (by rfl) T.b_len (by decide +kernel) (pa_cons (pv 0) pa_nil)) pe_int (nomark _))
    (pss_cons (ps_asg (pe_op op_add (pe_ix ix_list (pv 0) pe_int (fun _ _ => rfl)) pe_int) (pg_sub (pv 0) pe_int set_list))
    (pss_one (ps_expr (pe_bm PySem.F.plainAttrs_list PySem.F.slot_list_append PySem.F.type_list_append mt_append (pv 0) (pa_cons (pe_op op_mulW (pe_op op_pow pe_int pe_int) (pe_op op_add (pe_op op_pow pe_int pe_int) (pe_ix ix_list (pv 0) pe_int (fun _ _ => rfl)))) pa_nil)))))
    pss_nil)
  (pss_cons (ps_set (i := 2) scLDraw.nd rfl (by first | exact Or.inl rfl | exact Or.inr rfl) (pe_bm0 PySem.F.plainAttrs_list PySem.F.slot_list_pop PySem.F.type_list_pop mt_pop (pv 0)))
  (C8.pss_cut (ps_if (pt_cmpR op_ge (pv 2) (pv 1) (nomark _))
    (pss_one (ps_expr (pe_bm PySem.F.plainAttrs_list PySem.F.slot_list_append PySem.F.type_list_append mt_append (pv 0) (pa_cons (pe_op op_fdivW (pv 2) (pv 1)) pa_nil))))
    pss_nil)
  (pss_one (ps_ret (pe_op op_mod (pe_callTy call_intI (by rfl) T.b_int (by decide +kernel) (pa_cons (pv 2) pa_nil)) (pv 1))))))), ?_⟩
    have hn0 : 0 < n := hn.1
    refine ⟨fun σ' H' => ∃ (z' : Int) (ms : List Int) (y : Int), σ' = [some (.ref p), some (.int n), none] ∧ But p H H' ∧ H' p = some (.lst ((z' :: (ms ++ [y])).map V.int)) ∧ 0 ≤ z' ∧ z' ≤ 1000003 + (b + 1 : Nat) ∧ ms.length ≤ 63, ?_, ?_⟩
    · refine ⟨_, rfl, p, _, rfl, .inl (SqL.of hp), rfl, _, rfl, ?_⟩
      cases ns with
      | nil =>
        refine iteT ?_
        refine ⟨_, rfl, p, _, _, _, rfl, rfl, SqL.of hp, atI0, _, _, rfl, rfl, _, rfl, p, _, _, 0, rfl, rfl, hp, rfl, ?_⟩
        refine ⟨_, rfl, .inl ⟨rfl, _, SqL.of upd_same⟩, _, _, rfl, rfl, ⟨by decide, by decide, by decide⟩, _, _, rfl, rfl, ⟨by decide, by decide, by decide⟩, _, rfl, p, _, _, _, rfl, rfl, SqL.of upd_same, atI0, _, _, rfl, rfl, _, _, rfl, rfl, ?_, p, _, _, rfl, rfl, upd_same, by show 1 < sizeLine; decide, ?_⟩
        · refine cmul_small (abs_small (by decide +kernel) (by decide +kernel)) (abs_small ?_ ?_)
          · have : (0 : Int) ≤ 47 ^ Int.toNat 36 := by decide +kernel
            omega
          · have : (47 : Int) ^ Int.toNat 36 ≤ 10 ^ 190 := by decide +kernel
            omega
        · refine ⟨z + 1, [], 43 ^ Int.toNat 36 * (47 ^ Int.toNat 36 + (z + 1)), rfl, But.upd.trans But.upd, by rw [upd_same]; rfl, by omega, by omega, by decide⟩
      | cons y r =>
        refine ifI (fun c => absurd c (by simp only [List.length_map, List.length_cons]; omega)) fun _ => ?_
        have e := List.dropLast_concat_getLast (l := y :: r) (by simp)
        refine ⟨z, (y :: r).dropLast, (y :: r).getLast (by simp), rfl, fun b o _ e => e, by rw [e]; exact hp, z0, by omega, by rw [List.length_dropLast]; omega⟩
    rintro _ H1 ⟨z', ms, y, rfl, b1, hp1, z0', z1', hms⟩
    refine ⟨_, rfl, .inl ⟨rfl, _, SqL.of hp1⟩, p, _, .int y, rfl, rfl, hp1, ?_, ?_⟩
    · rw [List.map_cons, List.map_append, List.length_cons, List.length_append, List.length_map]
      simp
    have ed : ((z' :: (ms ++ [y])).map V.int).dropLast = (z' :: ms).map V.int := by
      rw [← List.map_dropLast]
      congr 1
      rw [← List.cons_append, List.dropLast_concat]
    rw [ed]
    have hp2 : upd H1 p (.lst ((z' :: ms).map V.int)) p = some (.lst ((z' :: ms).map V.int)) := upd_same
    have b2 : But p H (upd H1 p (.lst ((z' :: ms).map V.int))) := b1.trans But.upd
    generalize upd H1 p (.lst ((z' :: ms).map V.int)) = H2 at hp2 b2 ⊢
    refine ⟨fun σ' H' => ∃ ks : List Int, σ' = [some (.ref p), some (.int n), some (.int y)] ∧ But p H H' ∧ H' p = some (.lst ((z' :: ks).map V.int)) ∧ ks.length ≤ 64, ?_, ?_⟩
    · refine ⟨_, rfl, _, rfl, _, _, rfl, rfl, _, rfl, ifD (fun _ => ?_) fun _ => ?_⟩
      · refine ⟨_, rfl, .inl ⟨rfl, _, SqL.of hp2⟩, _, rfl, _, rfl, _, _, rfl, rfl, hn, p, _, _, rfl, rfl, hp2, by simp only [List.length_map, List.length_cons]; exact sz_lt (by omega), ?_⟩
        exact ⟨ms ++ [y / n], rfl, b2.trans But.upd, by rw [upd_same, ← List.cons_append, List.map_append] <;> rfl, by simp; omega⟩
      · exact ⟨ms, rfl, b2, hp2, by omega⟩
    rintro _ H3 ⟨ks, rfl, b3, hp3, hks⟩
    refine ⟨_, rfl, _, rfl, _, rfl, _, _, rfl, rfl, hn0, ?_⟩
    exact k _ H3 b3 ⟨z', ks, hp3, z0', z1', hks⟩ (Int.emod_nonneg _ (by omega)) (Int.emod_lt_of_pos _ hn0)
end
end K14
set_option maxRecDepth 100000
set_option maxHeartbeats 4000000
namespace K14
open PySem L2 SI
/-- equal data of depth at most d -/
inductive Da (H : Hp) : Nat → V → V → Prop where
  | int (d : Nat) (i : Int) : Da H d (.int i) (.int i)
  | str (d : Nat) (s : Str) (h : SeqAt.shaped (.str s) = true) : Da H d (.str s) (.str s)
  | tup (d : Nat) (a b : Addr) (xs ys : List V) (ha : H a = some (.tup xs)) (hb : H b = some (.tup ys)) (hl : xs.length = ys.length) (hz : ys.length ≤ 100000) (h : ∀ (i : Nat) x y, xs[i]? = some x → ys[i]? = some y → Da H d x y) : Da H (d + 1) (.ref a) (.ref b)
@[irreducible] def spSame (d : Nat) : Sp := fun vs H Q _ => ∃ v u : V, vs = [v, u] ∧ Da H d v u ∧ Q (.bl true) H
theorem same_of {d : Nat} {H : Hp} {v u : V} {Q : VK} {E : XK} (h : Da H d v u) (k : Q (.bl true) H) : spSame d [v, u] H Q E := by
  unfold spSame
  exact ⟨v, u, rfl, h, k⟩
section
variable {P : Program} {w : World} {K : PySem.W.Frag} {mg : Str → Option Value} {base : Heap} {Ad1 Ad2 Ad3 Ad4 Ad5 Ad6 Ad9 Ad10 Ad11 Ad12 : Addr}
theorem kNt : PySem.W.kitOne K (.type "NoneType") (.type "tuple") = some false := kit_ty (by decide +kernel)
theorem kit_t : PySem.W.kitOne K (.type "int") (.type "tuple") = some false := kit_ty (by decide +kernel)
theorem kst : PySem.W.kitOne K (.type "str") (.type "tuple") = some false := kit_ty (by decide +kernel)
theorem ktt : PySem.W.kitOne K (.type "tuple") (.type "tuple") = some true := kit_ty (by decide +kernel)
theorem kis : PySem.W.kitOne K (.type "int") (.type "str") = some false := kit_ty (by decide +kernel)
theorem kss : PySem.W.kitOne K (.type "str") (.type "str") = some true := kit_ty (by decide +kernel)
theorem kii : PySem.W.kitOne K (.type "int") (.type "int") = some true := kit_ty (by decide +kernel)
theorem kib : PySem.W.kitOne K (.type "int") (.type "bool") = some false := kit_ty (by decide +kernel)
theorem kbb : PySem.W.kitOne K (.type "bool") (.type "bool") = some true := kit_ty (by decide +kernel)
theorem no_same (T : Txt P w K mg base Ad1 Ad2 Ad3 Ad4 Ad5 Ad6 Ad9 Ad10 Ad11 Ad12) : Cl P w K mg base 0 "_law_same" (fun _ _ _ _ => False) [] := by
  obtain ⟨f, fd, F, hm, b⟩ := T.d__law_same.ex
  exact ⟨f, fd, _, [], ⟨fun vs H Q E h => h.elim, fun A outer s H args us vs Q E hr h1 h2 h3 h => h.elim⟩, hm, F.kp, b, .nil⟩
theorem scLSame : FnScope ["told", "due", "k"] ["told", "due"] (defScope sLSame) := ⟨rfl, rfl, rfl, by decide +kernel, rfl, by decide +kernel, by decide +kernel⟩
theorem step_same (T : Txt P w K mg base Ad1 Ad2 Ad3 Ad4 Ad5 Ad6 Ad9 Ad10 Ad11 Ad12) {j d : Nat} {sp' : Sp} (c_LSame : Cl P w K mg base j "_law_same" sp' []) (hs : ∀ {e : Nat} {H : Hp} {v u : V} {Q : VK} {E : XK}, e + 1 = d → Da H e v u → Q (.bl true) H → sp' [v, u] H Q E) : Cl P w K mg base (j + 1) "_law_same" (spSame d) [] := by
  refine cl_of T.d__law_same scLSame (fun vs H Q E h => ?_) fun f cdv A outer s H vs Q E hr h => ?_
  · unfold spSame at h
    obtain ⟨v, u, rfl, _⟩ := h
    rfl
  · unfold spSame at h
    obtain ⟨v, u, rfl, hd, k⟩ := h
    refine ⟨_, (pss_cons (ps_if (pt_val (pe_callB call_isi (by rfl) T.b_isinstance (by decide +kernel) (pa_cons (pv 1) (pa_cons (pe_bltn (v := .ty "tuple") (u := .type "tuple") (by rfl) T.b_tuple (by decide +kernel) rfl) pa_nil))))
    (pss_cons (ps_if (PW.pt (pw_or (pt_not (pt_val (pe_callB call_isi (by rfl) T.b_isinstance (by decide +kernel) (pa_cons (pv 0) (pa_cons (pe_bltn (v := .ty "tuple") (u := .type "tuple") (by rfl) T.b_tuple (by decide +kernel) rfl) pa_nil))))) (pw_or1 (pt_cmpR op_ne (pe_callB call_len_seq (by rfl) T.b_len (by decide +kernel) (pa_cons (pv 0) pa_nil)) (pe_callB call_len_seq (by rfl) T.b_len (by decide +kernel) (pa_cons (pv 1) pa_nil)) (nomark _)))))
      (pss_one (ps_ret pe_bl))
      pss_nil)
    (pss_cons (ps_for (passes_of rfl) rfl (pi_range1 (by rfl) T.b_range (pa_cons (pe_callB call_len_seq (by rfl) T.b_len (by decide +kernel) (pa_cons (pv 1) pa_nil)) pa_nil)) (pg_name (i := 2) scLSame.nd rfl (by first | exact Or.inl rfl | exact Or.inr rfl))
      (pss_one (ps_if (pt_not (pt_val (pe_c c_LSame hr (Nat.le_refl _) rfl (pa_cons (pe_ix ix_tup (pv 0) (pv 2) (fun _ _ => rfl)) (pa_cons (pe_ix ix_tup (pv 1) (pv 2) (fun _ _ => rfl)) pa_nil)))))
        (pss_one (ps_ret pe_bl))
        pss_nil)))
    (pss_one (ps_ret pe_bl))))
    pss_nil)
  (pss_cons (ps_if (pt_val (pe_callB call_isi (by rfl) T.b_isinstance (by decide +kernel) (pa_cons (pv 1) (pa_cons (pe_bltn (v := .ty "str") (u := .type "str") (by rfl) T.b_str (by decide +kernel) rfl) pa_nil))))
    (pss_one (ps_ret (pe_and (pe_callB call_isi (by rfl) T.b_isinstance (by decide +kernel) (pa_cons (pv 0) (pa_cons (pe_bltn (v := .ty "str") (u := .type "str") (by rfl) T.b_str (by decide +kernel) rfl) pa_nil))) (pe_one (pe_cmpR (op_eqD hr.units) (pv 0) (pv 1) (nomark _))))))
    pss_nil)
  (pss_one (ps_ret (pe_and (pe_callB call_isi (by rfl) T.b_isinstance (by decide +kernel) (pa_cons (pv 0) (pa_cons (pe_bltn (v := .ty "int") (u := .type "int") (by rfl) T.b_int (by decide +kernel) rfl) pa_nil))) (pe_and (pe_not (pe_callB call_isi (by rfl) T.b_isinstance (by decide +kernel) (pa_cons (pv 0) (pa_cons (pe_bltn (v := .ty "bool") (u := .type "bool") (by rfl) T.b_bool (by decide +kernel) rfl) pa_nil)))) (pe_one (pe_cmpR (op_eqD hr.units) (pv 0) (pv 1) (nomark _))))))))), ?_⟩
    cases hd with
    | int _ i =>
      refine ⟨_, rfl, _, _, _, _, _, rfl, .ty "tuple", .base (.int _), kit_t, _, rfl, iteF ?_⟩
      refine ⟨_, rfl, _, _, _, _, _, rfl, .ty "str", .base (.int _), kis, _, rfl, iteF ?_⟩
      refine ⟨_, rfl, _, _, _, _, _, rfl, .ty "int", .base (.int _), kii, _, rfl, iteT ?_⟩
      refine ⟨_, rfl, _, _, _, _, _, rfl, .ty "bool", .base (.int _), kib, _, rfl, _, rfl, iteT ?_⟩
      refine ⟨_, rfl, _, rfl, .int i, .int i, .int _, .int _, rfl, rfl, ?_⟩
      rw [show PyData.eqv (.int i) (.int i) = true by show (i == i) = true; simp]
      exact k
    | str _ s0 hsh =>
      refine ⟨_, rfl, _, _, _, _, _, rfl, .ty "tuple", .base (.str _), kst, _, rfl, iteF ?_⟩
      refine ⟨_, rfl, _, _, _, _, _, rfl, .ty "str", .base (.str _), kss, _, rfl, iteT ?_⟩
      refine ⟨_, rfl, _, _, _, _, _, rfl, .ty "str", .base (.str _), kss, _, rfl, iteT ?_⟩
      refine ⟨_, rfl, _, rfl, .str s0, .str s0, .str _, .str _, hsh, hsh, ?_⟩
      rw [show PyData.eqv (.str s0) (.str s0) = true by show (s0 == s0) = true; simp]
      exact k
    | tup e a b xs ys ha hb hl hz hx =>
      refine ⟨_, rfl, _, _, _, _, _, rfl, .ty "tuple", .base (.tup hb), ktt, _, rfl, iteT ?_⟩
      refine ⟨_, rfl, _, _, _, _, _, rfl, .ty "tuple", .base (.tup ha), ktt, _, rfl, iteF ?_⟩
      refine ⟨_, rfl, a, _, rfl, .inr (SqT.of ha), _, rfl, b, _, rfl, .inr (SqT.of hb), rfl, _, rfl, ifIN (fun c => absurd (by rw [hl]) c) fun _ => ?_⟩
      refine ⟨_, rfl, b, _, rfl, .inr (SqT.of hb), _, rfl, by omega, by omega, ?_⟩
      rw [Int.toNat_natCast]
      refine for_range (lo := 0) (n := ys.length) (fun i σ H' => ∃ v2 : Option V, σ = [some (.ref a), some (.ref b), v2] ∧ H' = H)
        ⟨none, rfl, rfl⟩ (fun i σ H' hi h => ?_) fun σ H' h => ?_
      · obtain ⟨v2, rfl, rfl⟩ := h
        obtain ⟨y, hy⟩ : ∃ y, ys[i]? = some y := ⟨_, List.getElem?_eq_getElem hi⟩
        obtain ⟨x, hxx⟩ : ∃ x, xs[i]? = some x := ⟨_, List.getElem?_eq_getElem (by rw [hl]; exact hi)⟩
        rw [Int.zero_add]
        refine ⟨_, rfl, _, rfl, a, _, _, _, rfl, rfl, SqT.of ha, atI_nat hxx, _, rfl, _, rfl, b, _, _, _, rfl, rfl, SqT.of hb, atI_nat hy, ?_⟩
        exact hs rfl (hx i x y hxx hy) ⟨_, rfl, ifF rfl ⟨_, rfl, rfl⟩⟩
      · obtain ⟨v2, rfl, rfl⟩ := h
        exact k
theorem ok_LSame (T : Txt P w K mg base Ad1 Ad2 Ad3 Ad4 Ad5 Ad6 Ad9 Ad10 Ad11 Ad12) : ∀ d, Cl P w K mg base (d + 1) "_law_same" (spSame d) []
  | 0 => step_same T (no_same T) fun h => by omega
  | d + 1 => step_same T (ok_LSame T d) fun h hd k => by
    obtain rfl := Nat.succ.inj h
    exact same_of hd k
end
end K14
set_option maxRecDepth 100000
set_option maxHeartbeats 4000000
namespace K14
open PySem L2 SI
local macro_rules | `(tactic| walk_at "lk") => `(tactic| first | exact lk_hit | exact lk_nil | (refine lk_next (by decide +kernel) ?_; walk_at "lk"))
def okE (i : Nat) (p q : Int) : Prop := 0 ≤ p ∧ p ≤ i ∧ 2 ≤ q ∧ q ≤ 31
def okTo (ps qs : List Int) (n : Nat) : Prop := ∀ (i : Nat) p q, i < n → ps[i]? = some p → qs[i]? = some q → okE i p q
/-- the first wrong edge: its parent, or its price -/
def badPar (ps qs : List Int) (i : Nat) : Prop := okTo ps qs i ∧ ∃ p, ps[i]? = some p ∧ (p < 0 ∨ (i : Int) < p)
def badPri (ps qs : List Int) (i : Nat) : Prop := okTo ps qs i ∧ (∃ p, ps[i]? = some p ∧ 0 ≤ p ∧ p ≤ i) ∧ ∃ q, qs[i]? = some q ∧ (q < 2 ∨ 31 < q)
def spEdges (K : PySem.W.Frag) (CP CQ : Addr) : Sp := fun vs H Q E => ∃ (a b : Addr) (ps qs : List Int), vs = [.ref a, .ref b] ∧ SqT K H a (ps.map V.int) ∧ SqT K H b (qs.map V.int) ∧ qs.length = ps.length ∧
  (okTo ps qs ps.length → ∀ H', Same H H' → Q .non H') ∧
  (∀ i, badPar ps qs i → ∀ d H', Same H H' → H' d = none → E (.ref CP) (some d) (upd H' d (.xd [("at", .int (i : Nat))]))) ∧
  (∀ i, badPri ps qs i → ∀ d H', Same H H' → H' d = none → E (.ref CQ) (some d) (upd H' d (.xd [("at", .int (i : Nat))])))
section
variable {P : Program} {w : World} {K : PySem.W.Frag} {mg : Str → Option Value} {base : Heap} {Ad1 Ad2 Ad3 Ad4 Ad5 Ad6 Ad9 Ad10 Ad11 Ad12 : Addr}
theorem scCheckEdges : FnScope ["parents", "prices", "at", "parent"] ["parents", "prices"] (defScope sCheckEdges) := ⟨rfl, rfl, rfl, by decide +kernel, rfl, by decide +kernel, by decide +kernel⟩
theorem ok_CheckEdges (T : Txt P w K mg base Ad1 Ad2 Ad3 Ad4 Ad5 Ad6 Ad9 Ad10 Ad11 Ad12) : Cl P w K mg base 3 "check_edges" (spEdges K Ad9 Ad10) [] := by
  refine cl_of T.d_check_edges scCheckEdges (fun vs H Q E h => ?_) fun f cdv A outer s H vs Q E hr h => ?_
  · obtain ⟨a, b, ps, qs, rfl, _⟩ := h
    rfl
  · obtain ⟨a, b, ps, qs, rfl, ha, hb, hl, k1, k2, k3⟩ := h
    refine ⟨_, (pss_one (ps_for (passes_of rfl) rfl (pi_enumT (by rfl) T.b_enumerate (pa_cons (pv 0) pa_nil)) (pg_tup rfl (pgs_cons (pg_name (i := 2) scCheckEdges.nd rfl (by first | exact Or.inl rfl | exact Or.inr rfl)) (pgs_cons (pg_name (i := 3) scCheckEdges.nd rfl (by first | exact Or.inl rfl | exact Or.inr rfl)) pgs_nil)))
    (pss_cons (ps_if (PW.pt (pw_or (pt_cmpR op_lt (pv 3) pe_int (nomark _)) (pw_or1 (pt_cmpR op_gt (pv 3) (pv 2) (nomark _)))))
      (pss_one (ps_raise rfl (takes_of rfl rfl rfl rfl) (pmk_rs T.rBadParent hr (by decide) rfl (pa_cons (pv 2) pa_nil))))
      pss_nil)
    (pss_one (ps_if (PW.pt (pw_or (pt_cmpR op_lt (pe_ix ix_tup (pv 1) (pv 2) (fun _ _ => rfl)) (pe_const rfl T.c_LEAST_PRICE) (nomark _)) (pw_or1 (pt_cmpR op_gt (pe_ix ix_tup (pv 1) (pv 2) (fun _ _ => rfl)) (pe_const rfl T.c_MOST_PRICE) (nomark _)))))
      (pss_one (ps_raise rfl (takes_of rfl rfl rfl rfl) (pmk_rs T.rBadPrice hr (by decide) rfl (pa_cons (pv 2) pa_nil))))
      pss_nil))))), ?_⟩
    refine ⟨_, rfl, a, _, rfl, ha, for_enumT (K := K) (a := a) (xs := ps.map V.int) (fun i σ H' => ∃ v1 v2 : Option V, σ = [some (.ref a), some (.ref b), v1, v2] ∧ Same H H' ∧ okTo ps qs i)
      ⟨none, none, rfl, Same.refl H, fun j p q hj => absurd hj (Nat.not_lt_zero _)⟩ (fun i σ H' h => by obtain ⟨_, _, _, sh, _⟩ := h; exact smT sh ha) (fun i x Tq σ H' hx h hT => ?_) fun σ H' h => ?_⟩
    · obtain ⟨v1, v2, rfl, sh, hok⟩ := h
      obtain ⟨p, hp, rfl⟩ := ints_at hx
      have hi : i < ps.length := (List.getElem?_eq_some_iff.mp hp).1
      obtain ⟨q, hq⟩ : ∃ q, qs[i]? = some q := ⟨_, List.getElem?_eq_getElem (by omega)⟩
      refine ⟨Tq, _, rfl, .inl (.inl upd_same), rfl, ?_⟩
      have st : Same H (upd H' Tq (.tup [.int (i : Nat), .int p])) := smN sh hT
      have hb2 := smT st hb
      refine ⟨_, _, rfl, _, _, rfl, rfl, _, rfl, _, _, rfl, rfl, _, rfl, ?_⟩
      refine ifD (fun c => ?_) fun c => ?_
      · exact ⟨_, rfl, _, ⟨_, rfl, rfl⟩, fun d hd => k2 i ⟨hok, p, hp, .inl c⟩ d _ st hd⟩
      refine ⟨_, rfl, _, rfl, _, _, rfl, rfl, _, rfl, ?_⟩
      refine ifD (fun c' => ?_) fun c' => ?_
      · exact ⟨_, rfl, _, ⟨_, rfl, rfl⟩, fun d hd => k2 i ⟨hok, p, hp, .inr c'⟩ d _ st hd⟩
      have okp : ∃ p, ps[i]? = some p ∧ 0 ≤ p ∧ p ≤ i := ⟨p, hp, by omega, by omega⟩
      refine ⟨_, rfl, _, rfl, b, _, _, _, rfl, rfl, hb2, atI_nat (at_ints hq), _, _, rfl, rfl, _, rfl, ?_⟩
      refine ifD (fun c2 => ?_) fun c2 => ?_
      · exact ⟨_, rfl, _, ⟨_, rfl, rfl⟩, fun d hd => k3 i ⟨hok, okp, q, hq, .inl c2⟩ d _ st hd⟩
      refine ⟨_, rfl, _, rfl, b, _, _, _, rfl, rfl, hb2, atI_nat (at_ints hq), _, _, rfl, rfl, _, rfl, ?_⟩
      refine ifD (fun c3 => ?_) fun c3 => ?_
      · exact ⟨_, rfl, _, ⟨_, rfl, rfl⟩, fun d hd => k3 i ⟨hok, okp, q, hq, .inr c3⟩ d _ st hd⟩
      refine ⟨_, _, rfl, st, fun j p' q' hj hp' hq' => ?_⟩
      by_cases e : j < i
      · exact hok j p' q' e hp' hq'
      · obtain rfl : j = i := by omega
        rw [hp] at hp'
        rw [hq] at hq'
        cases hp'
        cases hq'
        exact ⟨by omega, by omega, by omega, by omega⟩
    · obtain ⟨v1, v2, rfl, sh, hok⟩ := h
      rw [List.length_map] at hok
      exact k1 hok H' sh
/-- a tree at its address -/
def treeF (n : Int) (a b : Addr) : List (Str × V) := [("nodes", .int n), ("parents", .ref a), ("prices", .ref b)]
def TreeAt (C : Addr) (H : Hp) (t : Addr) (ps qs : List Int) : Prop := ∃ dx a b, H t = some (.ins C dx (treeF (ps.length + 1) a b)) ∧ H a = some (.tup (ps.map V.int)) ∧ H b = some (.tup (qs.map V.int))
def okT (ps qs : List Int) : Prop := ps.length ≤ 59 ∧ qs.length = ps.length ∧ okTo ps qs ps.length
/-- what Tree(parents, prices) raises -/
inductive BadT (Ad2 Ad6 Ad9 Ad10 : Addr) (ps qs : List Int) : Addr → List (Str × V) → Prop where
  | many (h : 59 < ps.length) : BadT Ad2 Ad6 Ad9 Ad10 ps qs Ad2 [("many", .int (ps.length + 1)), ("what", .str "nodes")]
  | width (h : ps.length ≤ 59) (h2 : qs.length ≠ ps.length) : BadT Ad2 Ad6 Ad9 Ad10 ps qs Ad6 [("need", .int (ps.length : Nat)), ("have", .int (qs.length : Nat))]
  | par (h : ps.length ≤ 59) (h2 : qs.length = ps.length) (i : Nat) (h3 : badPar ps qs i) : BadT Ad2 Ad6 Ad9 Ad10 ps qs Ad9 [("at", .int (i : Nat))]
  | pri (h : ps.length ≤ 59) (h2 : qs.length = ps.length) (i : Nat) (h3 : badPri ps qs i) : BadT Ad2 Ad6 Ad9 Ad10 ps qs Ad10 [("at", .int (i : Nat))]
abbrev RowR (K : PySem.W.Frag) (H : Hp) (a : Addr) (ps : List Int) : Prop := SqL K H a (ps.map V.int) ∨ H a = some (.tup (ps.map V.int))
def spTree (K : PySem.W.Frag) (Ad2 Ad6 Ad9 Ad10 C : Addr) : Sp := fun vs H Q E => ∃ (p dx a b : Addr) (ps qs : List Int), vs = [.ref p, .ref a, .ref b] ∧ H p = some (.ins C dx []) ∧ RowR K H a ps ∧ RowR K H b qs ∧
  (okT ps qs → ∀ H', (∀ b o, b ≠ p → H b = some o → H' b = some o) → TreeAt C H' p ps qs → Q .non H') ∧
  (∀ x fs, BadT Ad2 Ad6 Ad9 Ad10 ps qs x fs → ∀ d H', Same H H' → H' d = none → E (.ref x) (some d) (upd H' d (.xd fs)))
/-- tuple(row), whatever the row is -/
@[irreducible] def rTupR (K : PySem.W.Frag) : List V → Hp → VK → Prop := fun xs H Q => ∃ (p : Addr) (ys : List V), xs = [V.ref p] ∧ ((SqL K H p ys ∧ ∀ (l : Addr), H l = none → Q (V.ref l) (upd H l (HO.tup ys))) ∨ (SqT K H p ys ∧ Q (V.ref p) H))
theorem call_tupR {X : Cx} : CallR X (.type "tuple") (rTupR X.K) := by
  intro pins s σ H xs us Q I r h
  unfold rTupR at h
  exact call_tuple_of pins s σ H xs us Q I r h
theorem tup_of {K : PySem.W.Frag} {H : Hp} {a : Addr} {ps : List Int} {Q : VK} (h : RowR K H a ps) (k : ∀ q H', Same H H' → H' q = some (.tup (ps.map V.int)) → Q (.ref q) H') : rTupR K [V.ref a] H Q := by
  unfold rTupR
  rcases h with h | h
  · exact ⟨a, _, rfl, .inl ⟨h, fun l hl => k l _ (sm0 hl) upd_same⟩⟩
  · exact ⟨a, _, rfl, .inr ⟨SqT.of h, k a H (Same.refl H) h⟩⟩
theorem RowR.same {K : PySem.W.Frag} {H H' : Hp} {a : Addr} {ps : List Int} (s : Same H H') : RowR K H a ps → RowR K H' a ps
  | .inl h => .inl (s.seq h)
  | .inr h => .inr (s _ _ h)
theorem scTreeInit : FnScope ["self", "parents", "prices", "kept_parents", "kept_prices", "nodes"] ["self", "parents", "prices"] (defScope sTreeInit) := ⟨rfl, rfl, rfl, by decide +kernel, rfl, by decide +kernel, by decide +kernel⟩
theorem ok_Tree (T : Txt P w K mg base Ad1 Ad2 Ad3 Ad4 Ad5 Ad6 Ad9 Ad10 Ad11 Ad12) : Mkd P w K mg base 4 "Tree" Ad11 "Tree.__init__" sTreeInit ["self", "parents", "prices"] (spTree K Ad2 Ad6 Ad9 Ad10 Ad11) := by
  have c_CheckEdges := ok_CheckEdges T
  refine mkd_of T.m_Tree scTreeInit (fun vs H Q E h => ?_) fun f cdv A outer s H vs Q E hr h => ?_
  · obtain ⟨p, dx, a, b, ps, qs, rfl, _⟩ := h
    rfl
  · obtain ⟨p, dx, a, b, ps, qs, rfl, hp, ha, hb, k1, k2⟩ := h
    refine ⟨_, (pss_cons (ps_set (i := 3) scTreeInit.nd rfl (by first | exact Or.inl rfl | exact Or.inr rfl) (pe_callTy call_tupR (by rfl) T.b_tuple (by decide +kernel) (pa_cons (pv 1) pa_nil)))
  (pss_cons (ps_set (i := 4) scTreeInit.nd rfl (by first | exact Or.inl rfl | exact Or.inr rfl) (pe_callTy call_tupR (by rfl) T.b_tuple (by decide +kernel) (pa_cons (pv 2) pa_nil)))
  (pss_cons (ps_set (i := 5) scTreeInit.nd rfl (by first | exact Or.inl rfl | exact Or.inr rfl) (pe_op op_add (pe_callB call_len_seq (by rfl) T.b_len (by decide +kernel) (pa_cons (pv 3) pa_nil)) pe_int))
  (pss_cons (ps_if (pt_cmpR op_gt (pv 5) (pe_const rfl T.c_MOST_TREE_NODES) (nomark _))
    (pss_one (ps_raise rfl (takes_of rfl rfl rfl rfl) (pmk_rs T.rBadCount hr (by decide) rfl (pa_cons pe_str (pa_cons (pv 5) pa_nil)))))
    pss_nil)
  (pss_cons (ps_if (pt_cmpR op_ne (pe_callB call_len_seq (by rfl) T.b_len (by decide +kernel) (pa_cons (pv 4) pa_nil)) (pe_callB call_len_seq (by rfl) T.b_len (by decide +kernel) (pa_cons (pv 3) pa_nil)) (nomark _))
    (pss_one (ps_raise rfl (takes_of rfl rfl rfl rfl) (pmk_rs T.rWrongWidth hr (by decide) rfl (pa_cons (pe_callB call_len_seq (by rfl) T.b_len (by decide +kernel) (pa_cons (pv 4) pa_nil)) (pa_cons (pe_callB call_len_seq (by rfl) T.b_len (by decide +kernel) (pa_cons (pv 3) pa_nil)) pa_nil)))))
    pss_nil)
  (pss_cons (ps_expr (pe_cX (takes_of rfl rfl rfl rfl) c_CheckEdges hr (by decide) rfl (pa_cons (pv 3) (pa_cons (pv 4) pa_nil))))
  (pss_cons (ps_fld (pv 0) (pv 5) rfl)
  (pss_cons (ps_fld (pv 0) (pv 3) rfl)
  (pss_one (ps_fld (pv 0) (pv 4) rfl)))))))))), ?_⟩
    refine ⟨_, rfl, tup_of ha fun q1 H1 s1 hq1 => ?_⟩
    refine ⟨_, rfl, tup_of (hb.same s1) fun q2 H2 s2 hq2 => ?_⟩
    have s02 := s1.trans s2
    have hq1' := s2 _ _ hq1
    refine ⟨_, rfl, q1, _, rfl, .inr (SqT.of hq1'), _, _, rfl, rfl, ?_⟩
    refine ⟨_, rfl, _, _, rfl, rfl, _, rfl, ?_⟩
    have elp : (((ps.map V.int).length : Nat) : Int) = (ps.length : Nat) := by rw [List.length_map]
    refine ifD (fun c => ?_) fun c => ?_
    · refine ⟨_, rfl, _, ⟨_, _, rfl, ⟨_, rfl, by decide +kernel⟩, rfl⟩, fun d hd => ?_⟩
      have c1 : (60 : Int) < ((ps.map V.int).length : Nat) + 1 := c
      rw [elp] at c1
      have := k2 _ _ (.many (by omega)) d H2 s02 hd
      rw [elp]
      exact this
    have c1 : ¬ (60 : Int) < ((ps.map V.int).length : Nat) + 1 := c
    rw [elp] at c1
    refine ⟨_, rfl, q2, _, rfl, .inr (SqT.of hq2), _, rfl, q1, _, rfl, .inr (SqT.of hq1'), rfl, _, rfl, ?_⟩
    refine ifIN (fun c2 => ?_) fun c2 => ?_
    · refine ⟨_, rfl, q2, _, rfl, .inr (SqT.of hq2), _, rfl, q1, _, rfl, .inr (SqT.of hq1'), _, ⟨_, _, rfl, trivial, rfl⟩, fun d hd => ?_⟩
      rw [List.length_map, List.length_map] at c2
      have := k2 _ _ (.width (by omega) (by omega)) d H2 s02 hd
      rw [List.length_map, List.length_map]
      exact this
    rw [List.length_map, List.length_map] at c2
    have c3 : qs.length = ps.length := by omega
    refine ⟨_, rfl, _, rfl, q1, q2, ps, qs, rfl, SqT.of hq1', SqT.of hq2, c3, fun hok H3 s3 => ?_, fun i hi d H3 s3 hd => k2 _ _ (.par (by omega) c3 i hi) d H3 (s02.trans s3) hd, fun i hi d H3 s3 hd => k2 _ _ (.pri (by omega) c3 i hi) d H3 (s02.trans s3) hd⟩
    have s03 := s02.trans s3
    have hp3 := s03 _ _ hp
    have n1 : q1 ≠ p := ne_of (s3 _ _ hq1') hp3 (by intro z; cases z)
    have n2 : q2 ≠ p := ne_of (s3 _ _ hq2) hp3 (by intro z; cases z)
    refine ⟨_, rfl, _, rfl, p, Ad11, dx, _, rfl, hp3, T.lTree, T.nTree_nodes, (by decide), ?_⟩
    refine ⟨_, rfl, _, rfl, p, Ad11, dx, _, rfl, upd_same, T.lTree, T.nTree_parents, (by show 1 < 1000; decide), ?_⟩
    refine ⟨_, rfl, _, rfl, p, Ad11, dx, _, rfl, upd_same, T.lTree, T.nTree_prices, (by show 2 < 1000; decide), ?_⟩
    rw [upd_upd, upd_upd]
    refine k1 ⟨by omega, c3, hok⟩ _ (fun b o nb e => ?_) ⟨dx, q1, q2, ?_, ?_, ?_⟩
    · rw [upd_ne nb]
      exact s03 _ _ e
    · rw [upd_same, List.length_map, putF_new (f := "nodes") (by walk_at "lk"), putF_new (f := "parents") (by walk_at "lk"), putF_new (f := "prices") (by walk_at "lk")]
      rfl
    · rw [upd_ne n1]; exact s3 _ _ hq1'
    · rw [upd_ne n2]; exact s3 _ _ hq2
end
end K14
set_option maxRecDepth 100000
set_option maxHeartbeats 4000000
namespace K14
open PySem L2 SI
local macro_rules | `(tactic| walk_at "lk") => `(tactic| first | exact lk_hit | exact lk_nil | (refine lk_next (by decide +kernel) ?_; walk_at "lk"))
theorem TreeAt.same {C t : Addr} {H H' : Hp} {ps qs : List Int} (s : Same H H') (h : TreeAt C H t ps qs) : TreeAt C H' t ps qs := by
  obtain ⟨dx, a, b, h1, h2, h3⟩ := h
  exact ⟨dx, a, b, s _ _ h1, s _ _ h2, s _ _ h3⟩
/-- heights by the edges from m on -/
structure IsH (ps qs : List Int) (m : Nat) (f : List Int) : Prop where
  len : f.length = ps.length + 1
  pos : ∀ (v : Nat) x, f[v]? = some x → 1 ≤ x ∧ x ≤ 31 ^ (ps.length + 1 - v)
  up : ∀ (i : Nat) p q x y, m ≤ i → ps[i]? = some p → qs[i]? = some q → f[i + 1]? = some x → f[p.toNat]? = some y → q * x ≤ y
  att : ∀ (v : Nat) y, f[v]? = some y → y = 1 ∨ ∃ (i : Nat) (q x : Int), m ≤ i ∧ ps[i]? = some (v : Int) ∧ qs[i]? = some q ∧ f[i + 1]? = some x ∧ y = q * x
theorem pow31 : ∀ k : Nat, (1 : Int) ≤ 31 ^ k
  | 0 => by decide
  | k + 1 => by rw [Int.pow_succ]; have := pow31 k; omega
theorem pow31_le {a b : Nat} (h : a ≤ b) : (31 : Int) ^ a ≤ 31 ^ b := by
  obtain ⟨k, rfl⟩ : ∃ k, b = a + k := ⟨b - a, by omega⟩
  rw [Int.pow_add]
  have h1 := pow31 a
  have h2 := pow31 k
  have := Int.mul_le_mul_of_nonneg_left h2 (show 0 ≤ (31 : Int) ^ a by omega)
  omega
theorem isH_ones (ps qs : List Int) : IsH ps qs ps.length (List.replicate (ps.length + 1) 1) where
  len := by simp
  pos := fun v x h => by
    rw [List.getElem?_replicate] at h
    split at h
    · cases h
      exact ⟨by decide, pow31 _⟩
    · cases h
  up := fun i p q x y hm hp => by
    have := (List.getElem?_eq_some_iff.mp hp).1
    omega
  att := fun v y h => by
    rw [List.getElem?_replicate] at h
    split at h
    · cases h
      exact .inl rfl
    · cases h
theorem isH_step {ps qs : List Int} {m p : Nat} {q x y : Int} {f : List Int} (h : IsH ps qs (m + 1) f) (hp : ps[m]? = some (p : Int)) (hpm : p ≤ m) (hq : qs[m]? = some q) (hq2 : 2 ≤ q) (hq31 : q ≤ 31) (hx : f[m + 1]? = some x) (hy : f[p]? = some y) (ok : ∀ (i : Nat) p, ps[i]? = some p → 0 ≤ p ∧ p ≤ i) :
    IsH ps qs m (f.set p (if q * x > y then q * x else y)) := by
  have hpl : p < f.length := (List.getElem?_eq_some_iff.mp hy).1
  have hmax1 : q * x ≤ (if q * x > y then q * x else y) := by split <;> omega
  have hmax2 : y ≤ (if q * x > y then q * x else y) := by split <;> omega
  have same : ∀ v, v ≠ p → (f.set p (if q * x > y then q * x else y))[v]? = f[v]? := fun v hv => List.getElem?_set_ne (Ne.symm hv)
  have here : (f.set p (if q * x > y then q * x else y))[p]? = some (if q * x > y then q * x else y) := List.getElem?_set_self hpl
  have px := h.pos _ _ hx
  have py := h.pos _ _ hy
  have hm1 : m + 1 < f.length := (List.getElem?_eq_some_iff.mp hx).1
  have hlen := h.len
  have hqx : q * x ≤ 31 ^ (ps.length + 1 - p) := by
    have e : 31 * x ≤ 31 ^ (ps.length + 1 - p) := by
      have e1 : (31 : Int) ^ (ps.length + 1 - (m + 1) + 1) ≤ 31 ^ (ps.length + 1 - p) := pow31_le (by omega)
      rw [Int.pow_succ] at e1
      omega
    have e2 : q * x ≤ 31 * x := Int.mul_le_mul_of_nonneg_right hq31 (by omega)
    omega
  refine ⟨by rw [List.length_set]; exact hlen, fun v z hv => ?_, fun i p' q' x' y' hi hp' hq' hx' hy' => ?_, fun v z hv => ?_⟩
  · by_cases e : v = p
    · subst e
      rw [here] at hv
      cases hv
      refine ⟨by omega, ?_⟩
      split <;> omega
    · rw [same v e] at hv
      exact h.pos v z hv
  · have hip : i + 1 ≠ p := by omega
    rw [same _ hip] at hx'
    by_cases e : i = m
    · subst e
      rw [hp] at hp'
      rw [hq] at hq'
      rw [hx] at hx'
      cases hp'
      cases hq'
      cases hx'
      rw [Int.toNat_natCast, here] at hy'
      cases hy'
      exact hmax1
    · by_cases e2 : p'.toNat = p
      · rw [e2, here] at hy'
        cases hy'
        have := h.up i p' q' x' y (by omega) hp' hq' hx' (by rw [e2]; exact hy)
        omega
      · rw [same _ e2] at hy'
        exact h.up i p' q' x' y' (by omega) hp' hq' hx' hy'
  · by_cases e : v = p
    · subst e
      rw [here] at hv
      cases hv
      by_cases c : q * x > y
      · rw [if_pos c]
        exact .inr ⟨m, q, x, Nat.le_refl _, hp, hq, by rw [List.getElem?_set_ne (by omega)]; exact hx, rfl⟩
      · rw [if_neg c]
        rcases h.att _ y hy with a | ⟨i, q', x', h1, h2, h3, h4, h5⟩
        · exact .inl a
        · exact .inr ⟨i, q', x', by omega, h2, h3, by rw [List.getElem?_set_ne (by omega)]; exact h4, h5⟩
    · rw [same v e] at hv
      rcases h.att v z hv with a | ⟨i, q', x', h1, h2, h3, h4, h5⟩
      · exact .inl a
      · exact .inr ⟨i, q', x', by omega, h2, h3, by rw [same _ (by omega)]; exact h4, h5⟩
/-- heights are one -/
theorem isH_uniq {ps qs : List Int} {f g : List Int} (hl : qs.length = ps.length) (ok : okTo ps qs ps.length) (hf : IsH ps qs 0 f) (hg : IsH ps qs 0 g) : f = g := by
  have key : ∀ k v, ps.length + 1 - v = k → f[v]? = g[v]? := by
    intro k
    induction k using Nat.strongRecOn with
    | _ k ih =>
      intro v hv
      rcases Nat.lt_or_ge v (ps.length + 1) with hlt | hge
      · obtain ⟨y, hy⟩ : ∃ y, f[v]? = some y := ⟨_, List.getElem?_eq_getElem (by rw [hf.len]; exact hlt)⟩
        obtain ⟨z, hz⟩ : ∃ z, g[v]? = some z := ⟨_, List.getElem?_eq_getElem (by rw [hg.len]; exact hlt)⟩
        have one : ∀ {f g : List Int} {y z : Int}, IsH ps qs 0 f → IsH ps qs 0 g → (∀ u, v < u → f[u]? = g[u]?) → f[v]? = some y → g[v]? = some z → y ≤ z := by
          intro f g y z hf hg hs hy hz
          rcases hf.att v y hy with a | ⟨i, q, x, _, h2, h3, h4, h5⟩
          · have := (hg.pos v z hz).1
            omega
          · have hi : i < ps.length := (List.getElem?_eq_some_iff.mp h2).1
            have hvi : v < i + 1 := by
              have := (ok i _ q hi h2 h3).2.1
              omega
            rw [hs _ hvi] at h4
            have := hg.up i _ q x z (Nat.zero_le _) h2 h3 h4 (by rw [Int.toNat_natCast]; exact hz)
            omega
        have hs : ∀ u, v < u → f[u]? = g[u]? := fun u hu => by
          rcases Nat.lt_or_ge u (ps.length + 1) with a | a
          · exact ih (ps.length + 1 - u) (by omega) u rfl
          · rw [List.getElem?_eq_none (by rw [hf.len]; exact a), List.getElem?_eq_none (by rw [hg.len]; exact a)]
        have a := one hf hg hs hy hz
        have b := one hg hf (fun u hu => (hs u hu).symm) hz hy
        rw [hy, hz, show y = z by omega]
      · rw [List.getElem?_eq_none (by rw [hf.len]; exact hge), List.getElem?_eq_none (by rw [hg.len]; exact hge)]
  exact List.ext_getElem? fun v => key _ v rfl
def spHeights (K : PySem.W.Frag) (C : Addr) : Sp := fun vs H Q _ => ∃ (t : Addr) (ps qs : List Int), vs = [.ref t] ∧ TreeAt C H t ps qs ∧ okT ps qs ∧ ∀ q H' f, Same H H' → IsH ps qs 0 f → H' q = some (.tup (List.map V.int f)) → Q (.ref q) H'
section
variable {P : Program} {w : World} {K : PySem.W.Frag} {mg : Str → Option Value} {base : Heap} {Ad1 Ad2 Ad3 Ad4 Ad5 Ad6 Ad9 Ad10 Ad11 Ad12 : Addr}
theorem rep_one {n : Nat} {v : V} : (List.replicate n [v]).flatten = List.replicate n v := by
  induction n with
  | zero => rfl
  | succ k ih => rw [List.replicate_succ, List.flatten_cons, ih]; rfl
theorem scHeights : FnScope ["tree", "found", "node", "parent"] ["tree"] (defScope sHeights) := ⟨rfl, rfl, rfl, by decide +kernel, rfl, by decide +kernel, by decide +kernel⟩
theorem ok_Heights (T : Txt P w K mg base Ad1 Ad2 Ad3 Ad4 Ad5 Ad6 Ad9 Ad10 Ad11 Ad12) : Cd P w K mg base 1 "heights" sHeights ["tree"] (spHeights K Ad11) := by
  refine cd_of T.d_heights scHeights (fun vs H Q E h => ?_) fun f cdv A outer s H vs Q E hr h => ?_
  · obtain ⟨t, ps, qs, rfl, _⟩ := h
    rfl
  · obtain ⟨t, ps, qs, rfl, ht, ⟨hl, hlq, hok⟩, k⟩ := h
    refine ⟨_, (pss_cons (ps_set (i := 1) scHeights.nd rfl (by first | exact Or.inl rfl | exact Or.inr rfl) (pe_op op_rep (pe_lst (pa_cons pe_int pa_nil)) (pe_fld (pv 0) rfl)))
  (pss_cons (ps_for (passes_of rfl) rfl (pi_range3 (by rfl) T.b_range (pa_cons (pe_op op_sub (pe_fld (pv 0) rfl) pe_int) (pa_cons pe_int (pa_cons (pe_un un_neg pe_int) pa_nil)))) (pg_name (i := 2) scHeights.nd rfl (by first | exact Or.inl rfl | exact Or.inr rfl))
    (pss_cons (ps_set (i := 3) scHeights.nd rfl (by first | exact Or.inl rfl | exact Or.inr rfl) (pe_ix ix_tup (pe_fld (pv 0) rfl) (pe_op op_sub (pv 2) pe_int) (fun _ _ => rfl)))
    (pss_one (ps_asg (pe_callB (call_max2 rfl) (by rfl) T.b_max (by decide +kernel) (pa_cons (pe_ix ix_list (pv 1) (pv 3) (fun _ _ => rfl)) (pa_cons (pe_op op_mulW (pe_ix ix_tup (pe_fld (pv 0) rfl) (pe_op op_sub (pv 2) pe_int) (fun _ _ => rfl)) (pe_ix ix_list (pv 1) (pv 2) (fun _ _ => rfl))) pa_nil))) (pg_sub (pv 1) (pv 3) set_list)))))
  (pss_one (ps_ret (pe_callTy call_tupR (by rfl) T.b_tuple (by decide +kernel) (pa_cons (pv 1) pa_nil)))))), ?_⟩
    obtain ⟨dx, a, b, ht, ha, hb⟩ := ht
    have l1 : (treeF (ps.length + 1) a b).lookup ("nodes" : Str) = some (V.int (ps.length + 1)) := by walk_at "lk"
    have l2 : (treeF (ps.length + 1) a b).lookup ("parents" : Str) = some (V.ref a) := by walk_at "lk"
    have l3 : (treeF (ps.length + 1) a b).lookup ("prices" : Str) = some (V.ref b) := by walk_at "lk"
    have en : ((ps.length : Int) + 1).toNat = ps.length + 1 := by omega
    refine ⟨by show 1 ≤ sizeLine; decide, fun z1 h1 => ?_⟩
    have s1 : Same H (upd H z1 (.lst [.int 1])) := sm0 h1
    refine ⟨_, rfl, t, Ad11, dx, _, _, rfl, s1 _ _ ht, T.lTree, T.nTree_nodes, l1, z1, (ps.length : Int) + 1, _, rfl, rfl, upd_same, by omega, by omega, sz_small (by simp; omega), fun F hF => ?_⟩
    rw [en, rep_one]
    have s2 : Same H (upd (upd H z1 (.lst [.int 1])) F (.lst (List.replicate (ps.length + 1) (.int 1)))) := smN s1 hF
    have e0 : List.replicate (ps.length + 1) (V.int 1) = (List.replicate (ps.length + 1) (1 : Int)).map V.int := by rw [List.map_replicate]
    refine ⟨_, rfl, t, Ad11, dx, _, _, rfl, s2 _ _ ht, T.lTree, T.nTree_nodes, l1, _, _, rfl, rfl, _, rfl, (ps.length : Int) + 1 - 1, 0, -1, ((ps.length : Int) + 1 - 1 - 0).toNat, rfl, RgC.neg (by omega) (by omega) (by decide) (by decide), ?_⟩
    rw [show ((ps.length : Int) + 1 - 1 - 0).toNat = ps.length by omega]
    refine for_rangeC (lo := (ps.length : Int) + 1 - 1) (c := -1) (n := ps.length) (fun i σ H' => i ≤ ps.length ∧ ∃ (v2 v3 : Option V) (f : List Int), σ = [some (.ref t), some (.ref F), v2, v3] ∧ Same H H' ∧ H' F = some (.lst (f.map V.int)) ∧ IsH ps qs (ps.length - i) f)
      ⟨Nat.zero_le _, none, none, _, rfl, s2, by rw [upd_same, e0], isH_ones ps qs⟩ (fun i σ H' hi h => ?_) fun σ H' h => ?_
    · obtain ⟨_, v2, v3, f, rfl, sh, hf, hI⟩ := h
      obtain ⟨m, hm⟩ : ∃ m, m + 1 = ps.length - i := ⟨ps.length - i - 1, by omega⟩
      have hml : m < ps.length := by omega
      rw [← hm] at hI
      have ev : (ps.length : Int) + 1 - 1 + (i : Nat) * (-1) = ((m + 1 : Nat) : Int) := by omega
      rw [ev]
      obtain ⟨p, hp⟩ : ∃ p, ps[m]? = some p := ⟨_, List.getElem?_eq_getElem hml⟩
      obtain ⟨q, hq⟩ : ∃ q, qs[m]? = some q := ⟨_, List.getElem?_eq_getElem (by omega)⟩
      have ok := hok m p q hml hp hq
      obtain ⟨pn, rfl⟩ : ∃ pn : Nat, p = (pn : Int) := ⟨p.toNat, by have := ok.1; omega⟩
      have hpm : pn ≤ m := by have := ok.2.1; omega
      obtain ⟨x, hx⟩ : ∃ x, f[m + 1]? = some x := ⟨_, List.getElem?_eq_getElem (by rw [hI.len]; omega)⟩
      obtain ⟨y, hy⟩ : ∃ y, f[pn]? = some y := ⟨_, List.getElem?_eq_getElem (by rw [hI.len]; omega)⟩
      have px := hI.pos _ _ hx
      have hbig : x ≤ 10 ^ 200 := by
        have e1 : (31 : Int) ^ (ps.length + 1 - (m + 1)) ≤ 31 ^ 60 := pow31_le (by omega)
        have e2 : (31 : Int) ^ 60 ≤ 10 ^ 200 := by decide +kernel
        omega
      have htt := sh _ _ ht
      have haa := sh _ _ ha
      have hbb := sh _ _ hb
      refine ⟨_, rfl, t, Ad11, dx, _, _, rfl, htt, T.lTree, T.nTree_parents, l2, _, rfl, _, _, rfl, rfl, a, _, _, _, rfl, rfl, SqT.of haa, at_of (j := m) (by omega) (at_ints hp), ?_⟩
      refine ⟨_, rfl, _, rfl, F, _, _, _, rfl, rfl, SqL.of hf, atI_nat (at_ints hy), _, rfl, t, Ad11, dx, _, _, rfl, htt, T.lTree, T.nTree_prices, l3, _, rfl, _, _, rfl, rfl, b, _, _, _, rfl, rfl, SqT.of hbb, at_of (j := m) (by omega) (at_ints hq), _, rfl, _, rfl, F, _, _, _, rfl, rfl, SqL.of hf, atI_nat (at_ints hx), _, _, rfl, rfl, cmul_small (abs_small (by have := ok.2.2.1; omega) (by have := ok.2.2.2; omega)) (abs_small (by omega) hbig), _, _, rfl, ?_⟩
      refine ⟨_, rfl, _, rfl, F, _, _, pn, rfl, rfl, hf, ixN_of rfl (by rw [List.length_map, hI.len]; omega), ?_⟩
      refine ⟨hi, _, _, f.set pn (if q * x > y then q * x else y), rfl, smM sh (s1.free hF), by rw [upd_same, List.map_set], ?_⟩
      rw [show ps.length - (i + 1) = m by omega]
      exact isH_step hI hp hpm hq ok.2.2.1 ok.2.2.2 hx hy fun i p hp => by
        obtain ⟨q, hq⟩ : ∃ q, qs[i]? = some q := ⟨_, List.getElem?_eq_getElem (by have := (List.getElem?_eq_some_iff.mp hp).1; omega)⟩
        have := hok i p q (List.getElem?_eq_some_iff.mp hp).1 hp hq
        exact ⟨this.1, this.2.1⟩
    · obtain ⟨_, v2, v3, f, rfl, sh, hf, hI⟩ := h
      rw [Nat.sub_self] at hI
      refine ⟨_, rfl, tup_of (.inl (SqL.of hf)) fun q H2 s2 hq => ?_⟩
      exact k q H2 f (sh.trans s2) hI hq
end
end K14
set_option maxRecDepth 100000
set_option maxHeartbeats 4000000
namespace K14
open PySem L2 SI
local macro_rules | `(tactic| walk_at "lk") => `(tactic| first | exact lk_hit | exact lk_nil | (refine lk_next (by decide +kernel) ?_; walk_at "lk"))
/-- the children of v among the first i edges -/
def kids (ps : List Int) (v : Int) : Nat → List Int
  | 0 => []
  | i + 1 => kids ps v i ++ (if ps[i]? = some v then [((i : Nat) : Int) + 1] else [])
theorem kids_len (ps : List Int) (v : Int) : ∀ i, (kids ps v i).length ≤ i
  | 0 => Nat.le_refl _
  | i + 1 => by
    have := kids_len ps v i
    show (kids ps v i ++ _).length ≤ _
    rw [List.length_append]
    split <;> simp <;> omega
def spChildren (CN C : Addr) : Sp := fun vs H Q E => ∃ (t : Addr) (ps qs : List Int) (v : Int), vs = [.ref t, .int v] ∧ TreeAt C H t ps qs ∧ ps.length ≤ 59 ∧
  (0 ≤ v → v < ps.length + 1 → ∀ q H', Same H H' → H' q = some (.tup ((kids ps v ps.length).map V.int)) → Q (.ref q) H') ∧
  ((v < 0 ∨ (ps.length : Int) + 1 ≤ v) → ∀ d, H d = none → E (.ref CN) (some d) (upd H d (.xd [("node", .int v)])))
section
variable {P : Program} {w : World} {K : PySem.W.Frag} {mg : Str → Option Value} {base : Heap} {Ad1 Ad2 Ad3 Ad4 Ad5 Ad6 Ad9 Ad10 Ad11 Ad12 : Addr}
theorem scTreeChildren : FnScope ["self", "node", "at", "parent"] ["self", "node"] (defScope sTreeChildren) := ⟨rfl, rfl, rfl, by decide +kernel, rfl, by decide +kernel, by decide +kernel⟩
theorem ok_Children (T : Txt P w K mg base Ad1 Ad2 Ad3 Ad4 Ad5 Ad6 Ad9 Ad10 Ad11 Ad12) : Mtd P w K mg base 3 Ad11 "children" "Tree.children" sTreeChildren ["self", "node"] (spChildren Ad4 Ad11) := by
  refine mtd_of T.d_Tree_children scTreeChildren (fun vs H Q E h => ?_) fun f cdv A outer s H vs Q E hr h => ?_
  · obtain ⟨t, ps, qs, v, rfl, _⟩ := h
    rfl
  · obtain ⟨t, ps, qs, v, rfl, ⟨dx, a, b, ht, ha, hb⟩, hl, k1, k2⟩ := h
    refine ⟨_, (pss_cons (ps_if (PW.pt (pw_or (pt_cmpR op_lt (pv 1) pe_int (nomark _)) (pw_or1 (pt_cmpR op_ge (pv 1) (pe_fld (pv 0) rfl) (nomark _)))))
    (pss_one (ps_raise rfl (takes_of rfl rfl rfl rfl) (pmk_rs T.rNoNode hr (by decide) rfl (pa_cons (pv 1) pa_nil))))
    pss_nil)
  (pss_one (ps_ret (pe_callTy call_tupR (by rfl) T.b_tuple (by decide +kernel) (pa_cons (pe_lc (own := [(("at" : Str), 2), (("parent" : Str), 3)]) (g := gTup K 2 (gCons (gName 2) (gCons (gName 3) gNil))) (by rfl) scTreeChildren.nd (pi_enumT (by rfl) T.b_enumerate (pa_cons (pe_fld (pv 0) rfl) pa_nil)) (blkOk_by (own := [(("at" : Str), 2), (("parent" : Str), 3)]) (N := ["self", "node", "at", "parent"]) (sc := defScope sTreeChildren) (by decide +kernel)) (fun _ _ _ _ _ => (pg_tup rfl (pgs_cons (pg_name (i := 2) scTreeChildren.nd rfl (by first | exact Or.inl rfl | exact Or.inr rfl)) (pgs_cons (pg_name (i := 3) scTreeChildren.nd rfl (by first | exact Or.inl rfl | exact Or.inr rfl)) pgs_nil)))) (fun _ _ _ _ _ => (pts_one (pt_cmpR op_eq (pv 3) (pv 1) (nomark _)))) (fun _ _ _ _ _ => (pe_op op_add (pv 2) pe_int))) pa_nil))))), ?_⟩
    have l1 : (treeF (ps.length + 1) a b).lookup ("nodes" : Str) = some (V.int (ps.length + 1)) := by walk_at "lk"
    have l2 : (treeF (ps.length + 1) a b).lookup ("parents" : Str) = some (V.ref a) := by walk_at "lk"
    refine ⟨_, rfl, _, _, rfl, rfl, _, rfl, ?_⟩
    refine ifD (fun c => ?_) fun c => ?_
    · exact ⟨_, rfl, _, ⟨_, rfl, rfl⟩, fun d hd => k2 (.inl c) d hd⟩
    refine ⟨_, rfl, _, rfl, t, Ad11, dx, _, _, rfl, ht, T.lTree, T.nTree_nodes, l1, _, _, rfl, rfl, _, rfl, ?_⟩
    refine ifD (fun c' => ?_) fun c' => ?_
    · exact ⟨_, rfl, _, ⟨_, rfl, rfl⟩, fun d hd => k2 (.inr c') d hd⟩
    refine ⟨_, rfl, t, Ad11, dx, _, _, rfl, ht, T.lTree, T.nTree_parents, l2, a, _, rfl, SqT.of ha, fun D hD => ?_⟩
    refine lc_enumT (K := K) (a := a) (xs := ps.map V.int) (fun i H' => i ≤ ps.length ∧ Same H H' ∧ H' D = some (.lst ((kids ps v i).map V.int)))
      ⟨Nat.zero_le _, sm0 hD, upd_same⟩ (fun i H' z => smT z.2.1 (SqT.of ha)) (fun i x Tq H' hx z hT => ?_) fun H' z => ?_
    · obtain ⟨hi, sh, hacc⟩ := z
      obtain ⟨p, hp, rfl⟩ := ints_at hx
      have hil : i < ps.length := (List.getElem?_eq_some_iff.mp hp).1
      have st : Same H (upd H' Tq (.tup [.int (i : Nat), .int p])) := smN sh hT
      have hacc2 := atN (q := Tq) (o := .tup [.int (i : Nat), .int p]) hacc hT
      refine ⟨Tq, _, rfl, .inl (.inl upd_same), rfl, ?_⟩
      refine ⟨_, _, rfl, _, _, rfl, rfl, rfl, _, rfl, _, rfl, rfl, _, rfl, ?_⟩
      refine ifI (fun c => ?_) fun c => ?_
      · refine ⟨_, rfl, _, _, rfl, rfl, _, hacc2, ?_, hil, smM st hD, ?_⟩
        · rw [List.length_map]
          exact sz_lt (by have := kids_len ps v i; omega)
        · rw [upd_same]
          show _ = some (HO.lst ((kids ps v i ++ _).map V.int))
          rw [hp, if_pos (by rw [c]), List.map_append]
          rfl
      · refine ⟨hil, st, ?_⟩
        show _ = some (HO.lst ((kids ps v i ++ _).map V.int))
        rw [hp, if_neg (fun e => c (Option.some.inj e)), List.append_nil]
        exact hacc2
    · obtain ⟨hi, sh, hacc⟩ := z
      rw [List.length_map] at hacc
      refine tup_of (.inl (SqL.of hacc)) fun q H2 s2 hq => ?_
      exact k1 (by omega) (by omega) q H2 (sh.trans s2) hq
end
end K14
set_option maxRecDepth 100000
set_option maxHeartbeats 4000000
namespace K14
open PySem L2 SI
local macro_rules | `(tactic| walk_at "lk") => `(tactic| first | exact lk_hit | exact lk_nil | (refine lk_next (by decide +kernel) ?_; walk_at "lk"))
/-- the first child of v (among the first m edges) on which the height rests, else none -/
def rests (qs f : List Int) (v m : Nat) : Bool := match qs[m]?, f[m + 1]?, f[v]? with
  | some q, some x, some y => decide (q * x = y)
  | _, _, _ => false
def hit (ps qs f : List Int) (v m : Nat) : Bool := decide (ps[m]? = some (v : Int)) && rests qs f v m
def mainOf (ps qs f : List Int) (v : Nat) : Nat → Option Nat
  | 0 => none
  | m + 1 => match mainOf ps qs f v m with
    | some c => some c
    | none => if hit ps qs f v m = true then some (m + 1) else none
def nV : Option Nat → V
  | none => .non
  | some c => .int (c : Nat)
def mainRow (ps qs f : List Int) (m : Nat) : List V := (List.range (ps.length + 1)).map fun v => nV (mainOf ps qs f v m)
theorem mainRow_at {ps qs f : List Int} {m v : Nat} (h : v < ps.length + 1) : (mainRow ps qs f m)[v]? = some (nV (mainOf ps qs f v m)) := by
  unfold mainRow
  rw [List.getElem?_map, List.getElem?_range h]
  rfl
def spMain (K : PySem.W.Frag) (C : Addr) : Sp := fun vs H Q _ => ∃ (t : Addr) (ps qs : List Int), vs = [.ref t] ∧ TreeAt C H t ps qs ∧ okT ps qs ∧ ∀ q H' f, Same H H' → IsH ps qs 0 f → H' q = some (.tup (mainRow ps qs f ps.length)) → Q (.ref q) H'
theorem main_next {ps qs f : List Int} {m p : Nat} {q x y : Int} (hp : ps[m]? = some (p : Int)) (hq : qs[m]? = some q) (hx : f[m + 1]? = some x) (hy : f[p]? = some y) (hpl : p < ps.length + 1) :
    mainRow ps qs f (m + 1) = if mainOf ps qs f p m = none ∧ q * x = y then (mainRow ps qs f m).set p (.int ((m + 1 : Nat) : Int)) else mainRow ps qs f m := by
  have other : ∀ v, v ≠ p → mainOf ps qs f v (m + 1) = mainOf ps qs f v m := fun v hv => by
    show (match mainOf ps qs f v m with | some c => some c | none => _) = _
    cases e : mainOf ps qs f v m with
    | some c => rfl
    | none =>
      show (if hit ps qs f v m = true then _ else _) = _
      rw [if_neg]
      intro h
      unfold hit at h
      rw [Bool.and_eq_true, decide_eq_true_eq, hp] at h
      have := Option.some.inj h.1
      omega
  have own : mainOf ps qs f p (m + 1) = if mainOf ps qs f p m = none ∧ q * x = y then some (m + 1) else mainOf ps qs f p m := by
    show (match mainOf ps qs f p m with | some c => some c | none => _) = _
    cases e : mainOf ps qs f p m with
    | some c =>
      show some c = _
      exact (if_neg (fun z : some c = none ∧ q * x = y => by cases z.1)).symm
    | none =>
      show (if hit ps qs f p m = true then _ else _) = _
      have eh : hit ps qs f p m = decide (q * x = y) := by
        unfold hit rests
        rw [hq, hx, hy, decide_eq_true hp]
        rfl
      rw [eh]
      by_cases c : q * x = y
      · rw [if_pos (decide_eq_true c), if_pos ⟨rfl, c⟩]
      · rw [if_neg (by simp [c]), if_neg (fun z => c z.2)]
  apply List.ext_getElem?
  intro v
  rcases Nat.lt_or_ge v (ps.length + 1) with h | h
  · rw [mainRow_at h]
    by_cases e : v = p
    · subst e
      rw [own]
      split
      · rw [List.getElem?_set_self (by unfold mainRow; simp; omega)]; rfl
      · rw [mainRow_at h]
    · rw [other v e]
      split
      · rw [List.getElem?_set_ne (Ne.symm e), mainRow_at h]
      · rw [mainRow_at h]
  · have l1 : ∀ m, (mainRow ps qs f m).length = ps.length + 1 := fun m => by unfold mainRow; simp
    rw [List.getElem?_eq_none (by rw [l1]; exact h)]
    split
    · rw [List.getElem?_eq_none (by rw [List.length_set, l1]; exact h)]
    · rw [List.getElem?_eq_none (by rw [l1]; exact h)]
section
variable {P : Program} {w : World} {K : PySem.W.Frag} {mg : Str → Option Value} {base : Heap} {Ad1 Ad2 Ad3 Ad4 Ad5 Ad6 Ad9 Ad10 Ad11 Ad12 : Addr}
theorem scMainChildren : FnScope ["tree", "tops", "main", "node", "parent"] ["tree"] (defScope sMainChildren) := ⟨rfl, rfl, rfl, by decide +kernel, rfl, by decide +kernel, by decide +kernel⟩
theorem ok_MainChildren (T : Txt P w K mg base Ad1 Ad2 Ad3 Ad4 Ad5 Ad6 Ad9 Ad10 Ad11 Ad12) : Cl P w K mg base 2 "main_children" (spMain K Ad11) [] := by
  have c_Heights := (ok_Heights T).cl
  refine cl_of T.d_main_children scMainChildren (fun vs H Q E h => ?_) fun f cdv A outer s H vs Q E hr h => ?_
  · obtain ⟨t, ps, qs, rfl, _⟩ := h
    rfl
  · obtain ⟨t, ps, qs, rfl, ht, ⟨hl, hlq, hok⟩, k⟩ := h
    refine ⟨_, (pss_cons (ps_set (i := 1) scMainChildren.nd rfl (by first | exact Or.inl rfl | exact Or.inr rfl) (pe_c c_Heights hr (by decide) rfl (pa_cons (pv 0) pa_nil)))
  (pss_cons (ps_set (i := 2) scMainChildren.nd rfl (by first | exact Or.inl rfl | exact Or.inr rfl) (pe_op op_rep (pe_lst (pa_cons pe_non pa_nil)) (pe_fld (pv 0) rfl)))
  (pss_cons (ps_for (passes_of rfl) rfl (pi_range2 (by rfl) T.b_range (pa_cons pe_int (pa_cons (pe_fld (pv 0) rfl) pa_nil))) (pg_name (i := 3) scMainChildren.nd rfl (by first | exact Or.inl rfl | exact Or.inr rfl))
    (pss_cons (ps_set (i := 4) scMainChildren.nd rfl (by first | exact Or.inl rfl | exact Or.inr rfl) (pe_ix ix_tup (pe_fld (pv 0) rfl) (pe_op op_sub (pv 3) pe_int) (fun _ _ => rfl)))
    (pss_one (ps_if (PW.pt (pw_and (pt_cmpR op_isN (pe_ix ix_list (pv 2) (pv 4) (fun _ _ => rfl)) pe_non (nomark _)) (pw_and1 (pt_cmpR op_eq (pe_op op_mulW (pe_ix ix_tup (pe_fld (pv 0) rfl) (pe_op op_sub (pv 3) pe_int) (fun _ _ => rfl)) (pe_ix ix_tup (pv 1) (pv 3) (fun _ _ => rfl))) (pe_ix ix_tup (pv 1) (pv 4) (fun _ _ => rfl)) (nomark _)))))
      (pss_one (ps_asg (pv 3) (pg_sub (pv 2) (pv 4) set_list)))
      pss_nil))))
  (pss_one (ps_ret (pe_callTy call_tupR (by rfl) T.b_tuple (by decide +kernel) (pa_cons (pv 2) pa_nil))))))), ?_⟩
    refine ⟨_, rfl, t, ps, qs, rfl, ht, ⟨hl, hlq, hok⟩, fun hq H1 f s1 hI hh => ?_⟩
    obtain ⟨dx, a, b, ht, ha, hb⟩ := ht
    have l1 : (treeF (ps.length + 1) a b).lookup ("nodes" : Str) = some (V.int (ps.length + 1)) := by walk_at "lk"
    have l2 : (treeF (ps.length + 1) a b).lookup ("parents" : Str) = some (V.ref a) := by walk_at "lk"
    have l3 : (treeF (ps.length + 1) a b).lookup ("prices" : Str) = some (V.ref b) := by walk_at "lk"
    have en : ((ps.length : Int) + 1).toNat = ps.length + 1 := by omega
    refine ⟨by show 1 ≤ sizeLine; decide, fun z1 h1 => ?_⟩
    have s2 : Same H (upd H1 z1 (.lst [.non])) := smN s1 h1
    refine ⟨_, rfl, t, Ad11, dx, _, _, rfl, s2 _ _ ht, T.lTree, T.nTree_nodes, l1, z1, (ps.length : Int) + 1, _, rfl, rfl, upd_same, by omega, by omega, sz_small (by simp; omega), fun M hM => ?_⟩
    rw [en, rep_one]
    have s3 : Same H1 (upd (upd H1 z1 (.lst [.non])) M (.lst (List.replicate (ps.length + 1) .non))) := smN (sm0 h1) hM
    have e0 : List.replicate (ps.length + 1) V.non = mainRow ps qs f 0 := by
      unfold mainRow
      rw [show (fun v => nV (mainOf ps qs f v 0)) = fun _ => V.non from rfl, List.map_const', List.length_range]
    refine ⟨_, rfl, t, Ad11, dx, _, _, rfl, (s1.trans s3) _ _ ht, T.lTree, T.nTree_nodes, l1, 1, (ps.length : Int) + 1, rfl, ⟨by decide, by decide, by omega, by omega⟩, ?_⟩
    rw [show ((ps.length : Int) + 1 - 1).toNat = ps.length by omega]
    refine for_range (lo := 1) (n := ps.length) (fun m σ H' => ∃ v3 v4 : Option V, σ = [some (.ref t), some (.ref hq), some (.ref M), v3, v4] ∧ Same H1 H' ∧ H' M = some (.lst (mainRow ps qs f m)))
      ⟨none, none, rfl, s3, by rw [upd_same, e0]⟩ (fun m σ H' hml h => ?_) fun σ H' h => ?_
    · obtain ⟨v3, v4, rfl, sh, hMm⟩ := h
      have ev : (1 : Int) + (m : Nat) = ((m + 1 : Nat) : Int) := by omega
      rw [ev]
      obtain ⟨p, hp⟩ : ∃ p, ps[m]? = some p := ⟨_, List.getElem?_eq_getElem hml⟩
      obtain ⟨q, hqq⟩ : ∃ q, qs[m]? = some q := ⟨_, List.getElem?_eq_getElem (by omega)⟩
      have ok := hok m p q hml hp hqq
      obtain ⟨pn, rfl⟩ : ∃ pn : Nat, p = (pn : Int) := ⟨p.toNat, by have := ok.1; omega⟩
      have hpm : pn ≤ m := by have := ok.2.1; omega
      obtain ⟨x, hx⟩ : ∃ x, f[m + 1]? = some x := ⟨_, List.getElem?_eq_getElem (by rw [hI.len]; omega)⟩
      obtain ⟨y, hy⟩ : ∃ y, f[pn]? = some y := ⟨_, List.getElem?_eq_getElem (by rw [hI.len]; omega)⟩
      have px := hI.pos _ _ hx
      have hbig : x ≤ 10 ^ 200 := by
        have e1 : (31 : Int) ^ (ps.length + 1 - (m + 1)) ≤ 31 ^ 60 := pow31_le (by omega)
        have e2 : (31 : Int) ^ 60 ≤ 10 ^ 200 := by decide +kernel
        omega
      have sH := s1.trans sh
      have htt := sH _ _ ht
      have haa := sH _ _ ha
      have hbb := sH _ _ hb
      have hhh := sh _ _ hh
      have hpl : pn < ps.length + 1 := by omega
      have nxt := main_next (f := f) hp hqq hx hy hpl
      refine ⟨_, rfl, t, Ad11, dx, _, _, rfl, htt, T.lTree, T.nTree_parents, l2, _, rfl, _, _, rfl, rfl, a, _, _, _, rfl, rfl, SqT.of haa, at_of (j := m) (by omega) (at_ints hp), ?_⟩
      refine ⟨_, rfl, _, rfl, M, _, _, _, rfl, rfl, SqL.of hMm, atI_nat (mainRow_at hpl), rfl, _, rfl, ?_⟩
      cases e : mainOf ps qs f pn m with
      | some c =>
        refine ifD (fun z => by cases z) fun _ => ?_
        refine ⟨_, _, rfl, sh, ?_⟩
        rw [nxt, e, if_neg (fun z => by cases z.1)]
        exact hMm
      | none =>
        refine ifD (fun _ => ?_) fun z => absurd rfl z
        refine ⟨_, rfl, t, Ad11, dx, _, _, rfl, htt, T.lTree, T.nTree_prices, l3, _, rfl, _, _, rfl, rfl, b, _, _, _, rfl, rfl, SqT.of hbb, at_of (j := m) (by omega) (at_ints hqq), _, rfl, _, rfl, hq, _, _, _, rfl, rfl, SqT.of hhh, atI_nat (at_ints hx), _, _, rfl, rfl, cmul_small (abs_small (by have := ok.2.2.1; omega) (by have := ok.2.2.2; omega)) (abs_small (by omega) hbig), _, rfl, _, rfl, hq, _, _, _, rfl, rfl, SqT.of hhh, atI_nat (at_ints hy), rfl, _, rfl, ifI (fun c => ?_) fun c => ?_⟩
        · refine ⟨_, rfl, _, rfl, _, rfl, M, _, _, pn, rfl, rfl, hMm, ixN_of rfl (by unfold mainRow; simp; omega), ?_⟩
          refine ⟨_, _, rfl, smM sh ((sm0 h1).free hM), ?_⟩
          rw [upd_same, nxt, e, if_pos ⟨rfl, c⟩]
        · refine ⟨_, _, rfl, sh, ?_⟩
          rw [nxt, e, if_neg (fun z => c z.2)]
          exact hMm
    · obtain ⟨v3, v4, rfl, sh, hMm⟩ := h
      refine ⟨_, rfl, ?_⟩
      unfold rTupR
      refine ⟨M, _, rfl, .inl ⟨SqL.of hMm, fun l hl => ?_⟩⟩
      exact k l _ f (smN (s1.trans sh) hl) hI upd_same
end
end K14
set_option maxRecDepth 100000
set_option maxHeartbeats 4000000
namespace K14
open PySem L2 SI
/-- the way down from v by the row -/
def down (row : List (Option Nat)) : Nat → Nat → List Nat
  | 0, _ => []
  | k + 1, v => v :: (match row[v]? with | some (some c) => down row k c | _ => [])
def downO (row : List (Option Nat)) (k : Nat) : Option Nat → List Nat
  | none => []
  | some v => down row k v
theorem down_len (row : List (Option Nat)) : ∀ k v, (down row k v).length ≤ k
  | 0, _ => Nat.le_refl _
  | k + 1, v => by
    show (v :: _).length ≤ k + 1
    rw [List.length_cons]
    split
    · have := down_len row k ‹Nat›; omega
    · simp
def spPath (K : PySem.W.Frag) : Sp := fun vs H Q _ => ∃ (m : Addr) (top second : Nat) (row : List (Option Nat)), vs = [.ref m, .int (top : Nat), .int (second : Nat)] ∧ H m = some (.tup (row.map nV)) ∧ row.length ≤ 1000 ∧ second < row.length ∧ (∀ (v c : Nat), row[v]? = some (some c) → v < c ∧ c < row.length) ∧
  ∀ q H', Same H H' → H' q = some (.tup ((top :: down row (row.length - second) second).map fun i => V.int (i : Nat))) → Q (.ref q) H'
section
variable {P : Program} {w : World} {K : PySem.W.Frag} {mg : Str → Option Value} {base : Heap} {Ad1 Ad2 Ad3 Ad4 Ad5 Ad6 Ad9 Ad10 Ad11 Ad12 : Addr}
theorem scPathDown : FnScope ["main", "top", "second", "nodes", "node"] ["main", "top", "second"] (defScope sPathDown) := ⟨rfl, rfl, rfl, by decide +kernel, rfl, by decide +kernel, by decide +kernel⟩
theorem ok_PathDown (T : Txt P w K mg base Ad1 Ad2 Ad3 Ad4 Ad5 Ad6 Ad9 Ad10 Ad11 Ad12) : Cl P w K mg base 1 "path_down" (spPath K) [] := by
  refine cl_of T.d_path_down scPathDown (fun vs H Q E h => ?_) fun f cdv A outer s H vs Q E hr h => ?_
  · obtain ⟨m, top, second, row, rfl, _⟩ := h
    rfl
  · obtain ⟨m, top, second, row, rfl, hm, hl, hs, hrow, k⟩ := h
    refine ⟨_, (pss_cons (ps_set (i := 3) scPathDown.nd rfl (by first | exact Or.inl rfl | exact Or.inr rfl) (pe_lst (pa_cons (pv 1) pa_nil)))
  (pss_cons (ps_set (i := 4) scPathDown.nd rfl (by first | exact Or.inl rfl | exact Or.inr rfl) (pv 2))
  (pss_cons (ps_while (passes_of rfl) (pt_cmpR op_notN (pv 4) pe_non (nomark _))
    (pss_cons (ps_expr (pe_bm PySem.F.plainAttrs_list PySem.F.slot_list_append PySem.F.type_list_append mt_append (pv 3) (pa_cons (pv 4) pa_nil)))
    (pss_one (ps_set (i := 4) scPathDown.nd rfl (by first | exact Or.inl rfl | exact Or.inr rfl) (pe_ix ix_tup (pv 0) (pv 4) (fun _ _ => rfl))))))
  (pss_one (ps_ret (pe_callTy call_tupR (by rfl) T.b_tuple (by decide +kernel) (pa_cons (pv 3) pa_nil))))))), ?_⟩
    refine ⟨_, rfl, by show 1 ≤ sizeLine; decide, fun L hL => ?_⟩
    let μ : Option Nat → Nat := fun o => match o with | none => 0 | some v => row.length - v + 1
    refine ⟨_, rfl, fun n σ H' => ∃ (o : Option Nat) (acc : List Nat) (j : Nat), n = μ o ∧ σ = [some (.ref m), some (.int (top : Nat)), some (.int (second : Nat)), some (.ref L), some (nV o)] ∧ Same H H' ∧ H' L = some (.lst ((top :: acc).map fun i => V.int (i : Nat))) ∧ acc ++ downO row j o = down row (row.length - second) second ∧ ∀ v, o = some v → v < row.length ∧ row.length - v ≤ j, 
      ⟨_, some second, [], row.length - second, rfl, rfl, sm0 hL, by rw [upd_same] <;> rfl, rfl, fun v e => by cases e; exact ⟨hs, Nat.le_refl _⟩⟩, fun n σ H' h => ?_⟩
    obtain ⟨o, acc, j, rfl, rfl, sh, hacc, heq, ho⟩ := h
    have hlen : acc.length ≤ 1000 := by
      have h1 := congrArg List.length heq
      rw [List.length_append] at h1
      have h2 := down_len row (row.length - second) second
      omega
    cases o with
    | none =>
      refine ⟨_, rfl, rfl, _, rfl, ifN (fun z => absurd rfl z) fun _ => ?_⟩
      refine ⟨_, rfl, ?_⟩
      unfold rTupR
      refine ⟨L, _, rfl, .inl ⟨SqL.of hacc, fun q hq => ?_⟩⟩
      have e2 : acc = down row (row.length - second) second := by rw [← heq]; exact (List.append_nil _).symm
      refine k q _ (smN sh hq) ?_
      rw [upd_same, e2]
    | some v =>
      obtain ⟨hv, hj⟩ := ho v rfl
      obtain ⟨j', rfl⟩ : ∃ j', j = j' + 1 := ⟨j - 1, by omega⟩
      obtain ⟨o2, ho2⟩ : ∃ o2, row[v]? = some o2 := ⟨_, List.getElem?_eq_getElem hv⟩
      refine ⟨_, rfl, rfl, _, rfl, ifN (fun _ => ?_) fun z => by cases z⟩
      refine ⟨fun σ' H2 => ∃ m', m' < μ (some v) ∧ ∃ (o : Option Nat) (acc : List Nat) (j : Nat), m' = μ o ∧ σ' = [some (.ref m), some (.int (top : Nat)), some (.int (second : Nat)), some (.ref L), some (nV o)] ∧ Same H H2 ∧ H2 L = some (.lst ((top :: acc).map fun i => V.int (i : Nat))) ∧ acc ++ downO row j o = down row (row.length - second) second ∧ ∀ v, o = some v → v < row.length ∧ row.length - v ≤ j, fun _ _ h => h, ?_⟩
      refine ⟨_, rfl, .inl ⟨rfl, _, SqL.of hacc⟩, _, rfl, L, _, _, rfl, rfl, hacc, by simp only [List.length_map, List.length_cons]; exact sz_lt (by omega), ?_⟩
      have sh2 : Same H (upd H' L (.lst ((top :: acc).map (fun i => V.int (i : Nat)) ++ [V.int (v : Nat)]))) := smM sh hL
      refine ⟨_, rfl, _, rfl, m, _, _, _, rfl, rfl, SqT.of (sh2 _ _ hm), atI_nat (v := nV o2) (by rw [List.getElem?_map, ho2]; rfl), ?_⟩
      have hd : downO row (j' + 1) (some v) = v :: downO row j' o2 := by
        show v :: (match row[v]? with | some (some c) => down row j' c | _ => []) = _
        rw [ho2]
        cases o2 <;> rfl
      refine ⟨μ o2, ?_, o2, acc ++ [v], j', rfl, rfl, sh2, by rw [upd_same, ← List.cons_append, List.map_append] <;> rfl, by rw [List.append_assoc, ← heq, hd]; rfl, fun c e => ?_⟩
      · cases o2 with
        | none => show 0 < row.length - v + 1; omega
        | some c =>
          have := hrow v c ho2
          show row.length - c + 1 < row.length - v + 1
          omega
      · subst e
        have := hrow v c ho2
        exact ⟨this.2, by omega⟩
end
end K14
set_option maxRecDepth 100000
set_option maxHeartbeats 4000000
namespace K14
open PySem L2 SI
local macro_rules | `(tactic| walk_at "lk") => `(tactic| first | exact lk_hit | exact lk_nil | (refine lk_next (by decide +kernel) ?_; walk_at "lk"))
def mainL (ps qs f : List Int) : List (Option Nat) := (List.range (ps.length + 1)).map fun v => mainOf ps qs f v ps.length
theorem mainL_row (ps qs f : List Int) : mainRow ps qs f ps.length = (mainL ps qs f).map nV := by
  unfold mainRow mainL
  rw [List.map_map]
  rfl
theorem mainL_len (ps qs f : List Int) : (mainL ps qs f).length = ps.length + 1 := by unfold mainL; simp
theorem mainL_at {ps qs f : List Int} {v : Nat} (h : v < ps.length + 1) : (mainL ps qs f)[v]? = some (mainOf ps qs f v ps.length) := by
  unfold mainL
  rw [List.getElem?_map, List.getElem?_range h]
  rfl
theorem mainOf_up {ps qs f : List Int} (ok : ∀ (i : Nat) (p : Int), ps[i]? = some p → 0 ≤ p ∧ p ≤ i) (v : Nat) : ∀ m c, mainOf ps qs f v m = some c → v < c ∧ c ≤ m
  | 0, c, h => by cases h
  | m + 1, c, h => by
    have h' : (match mainOf ps qs f v m with | some c => some c | none => if hit ps qs f v m = true then some (m + 1) else none) = some c := h
    cases e : mainOf ps qs f v m with
    | some c' =>
      rw [e] at h'
      cases h'
      have := mainOf_up ok v m c e
      omega
    | none =>
      rw [e] at h'
      by_cases hh : hit ps qs f v m = true
      · have h2 : (if hit ps qs f v m = true then some (m + 1) else none) = some c := h'
        rw [if_pos hh] at h2
        cases h2
        unfold hit at hh
        rw [Bool.and_eq_true, decide_eq_true_eq] at hh
        have := (ok m _ hh.1).2
        omega
      · have h2 : (if hit ps qs f v m = true then some (m + 1) else none) = some c := h'
        rw [if_neg hh] at h2
        cases h2
/-- the paths that begin at the first m edges -/
def pathsTo (ps : List Int) (row : List (Option Nat)) : Nat → List (List Nat)
  | 0 => []
  | m + 1 => pathsTo ps row m ++ (match ps[m]? with
    | some p => if p = 0 ∨ row[p.toNat]? ≠ some (some (m + 1)) then [p.toNat :: down row (row.length - (m + 1)) (m + 1)] else []
    | none => [])
theorem paths_len (ps : List Int) (row : List (Option Nat)) : ∀ m, (pathsTo ps row m).length ≤ m
  | 0 => Nat.le_refl _
  | m + 1 => by
    have := paths_len ps row m
    show (pathsTo ps row m ++ _).length ≤ _
    rw [List.length_append]
    split
    · split <;> simp <;> omega
    · simp; omega
def TupsV (H : Hp) (xs : List V) (ls : List (List Nat)) : Prop := xs.length = ls.length ∧ ∀ (i : Nat) v l, xs[i]? = some v → ls[i]? = some l → ∃ r, v = .ref r ∧ H r = some (.tup (l.map fun i => V.int (i : Nat)))
theorem TupsV.same {H H' : Hp} {xs : List V} {ls : List (List Nat)} (s : Same H H') (h : TupsV H xs ls) : TupsV H' xs ls := ⟨h.1, fun i v l a b => by obtain ⟨r, h1, h2⟩ := h.2 i v l a b; exact ⟨r, h1, s _ _ h2⟩⟩
theorem tups_snoc {H : Hp} {xs : List V} {ls : List (List Nat)} {r : Addr} {l : List Nat} (h : TupsV H xs ls) (hr : H r = some (.tup (l.map fun i => V.int (i : Nat)))) : TupsV H (xs ++ [.ref r]) (ls ++ [l]) := by
  refine ⟨by simp [h.1], fun i v l' a b => ?_⟩
  rcases Nat.lt_or_ge i xs.length with c | c
  · rw [List.getElem?_append_left c] at a
    rw [List.getElem?_append_left (by rw [← h.1]; exact c)] at b
    exact h.2 i v l' a b
  · rw [List.getElem?_append_right c] at a
    rw [List.getElem?_append_right (by rw [← h.1]; exact c), ← h.1] at b
    cases e : i - xs.length with
    | zero =>
      rw [e] at a b
      cases a
      cases b
      exact ⟨r, rfl, hr⟩
    | succ j => rw [e] at a; simp at a
def spPaths (K : PySem.W.Frag) (C : Addr) : Sp := fun vs H Q _ => ∃ (t : Addr) (ps qs : List Int), vs = [.ref t] ∧ TreeAt C H t ps qs ∧ okT ps qs ∧ ∀ q H' f xs, Same H H' → IsH ps qs 0 f → H' q = some (.tup xs) → TupsV H' xs (pathsTo ps (mainL ps qs f) ps.length) → Q (.ref q) H'
section
variable {P : Program} {w : World} {K : PySem.W.Frag} {mg : Str → Option Value} {base : Heap} {Ad1 Ad2 Ad3 Ad4 Ad5 Ad6 Ad9 Ad10 Ad11 Ad12 : Addr}
theorem scPaths : FnScope ["tree", "main", "found", "node", "top"] ["tree"] (defScope sPaths) := ⟨rfl, rfl, rfl, by decide +kernel, rfl, by decide +kernel, by decide +kernel⟩
theorem ok_Paths (T : Txt P w K mg base Ad1 Ad2 Ad3 Ad4 Ad5 Ad6 Ad9 Ad10 Ad11 Ad12) : Cd P w K mg base 3 "paths" sPaths ["tree"] (spPaths K Ad11) := by
  have c_MainChildren := ok_MainChildren T
  have c_PathDown := ok_PathDown T
  refine cd_of T.d_paths scPaths (fun vs H Q E h => ?_) fun f cdv A outer s H vs Q E hr h => ?_
  · obtain ⟨t, ps, qs, rfl, _⟩ := h
    rfl
  · obtain ⟨t, ps, qs, rfl, ht, ⟨hl, hlq, hok⟩, k⟩ := h
    refine ⟨_, (pss_cons (ps_set (i := 1) scPaths.nd rfl (by first | exact Or.inl rfl | exact Or.inr rfl) (pe_c c_MainChildren hr (by decide) rfl (pa_cons (pv 0) pa_nil)))
  (pss_cons (ps_set (i := 2) scPaths.nd rfl (by first | exact Or.inl rfl | exact Or.inr rfl) (pe_lst pa_nil))
  (pss_cons (ps_for (passes_of rfl) rfl (pi_range2 (by rfl) T.b_range (pa_cons pe_int (pa_cons (pe_fld (pv 0) rfl) pa_nil))) (pg_name (i := 3) scPaths.nd rfl (by first | exact Or.inl rfl | exact Or.inr rfl))
    (pss_cons (ps_set (i := 4) scPaths.nd rfl (by first | exact Or.inl rfl | exact Or.inr rfl) (pe_ix ix_tup (pe_fld (pv 0) rfl) (pe_op op_sub (pv 3) pe_int) (fun _ _ => rfl)))
    (pss_one (ps_if (PW.pt (pw_or (pt_cmpR op_eq (pv 4) pe_int (nomark _)) (pw_or1 (pt_cmpR op_ne (pe_ix ix_tup (pv 1) (pv 4) (fun _ _ => rfl)) (pv 3) (nomark _)))))
      (pss_one (ps_expr (pe_bm PySem.F.plainAttrs_list PySem.F.slot_list_append PySem.F.type_list_append mt_append (pv 2) (pa_cons (pe_c c_PathDown hr (by decide) rfl (pa_cons (pv 1) (pa_cons (pv 4) (pa_cons (pv 3) pa_nil)))) pa_nil))))
      pss_nil))))
  (pss_one (ps_ret (pe_callTy call_tupR (by rfl) T.b_tuple (by decide +kernel) (pa_cons (pv 2) pa_nil))))))), ?_⟩
    refine ⟨_, rfl, t, ps, qs, rfl, ht, ⟨hl, hlq, hok⟩, fun hm H1 f s1 hI hmm => ?_⟩
    rw [mainL_row] at hmm
    obtain ⟨dx, a, b, ht, ha, hb⟩ := ht
    have l1 : (treeF (ps.length + 1) a b).lookup ("nodes" : Str) = some (V.int (ps.length + 1)) := by walk_at "lk"
    have l2 : (treeF (ps.length + 1) a b).lookup ("parents" : Str) = some (V.ref a) := by walk_at "lk"
    have okp : ∀ (i : Nat) (p : Int), ps[i]? = some p → 0 ≤ p ∧ p ≤ i := fun i p hp => by
      obtain ⟨q, hq⟩ : ∃ q, qs[i]? = some q := ⟨_, List.getElem?_eq_getElem (by have := (List.getElem?_eq_some_iff.mp hp).1; omega)⟩
      have := hok i p q (List.getElem?_eq_some_iff.mp hp).1 hp hq
      exact ⟨this.1, this.2.1⟩
    have hrow : ∀ (v c : Nat), (mainL ps qs f)[v]? = some (some c) → v < c ∧ c < (mainL ps qs f).length := fun v c h => by
      have hv : v < ps.length + 1 := by rw [← mainL_len ps qs f]; exact (List.getElem?_eq_some_iff.mp h).1
      rw [mainL_at hv] at h
      have := mainOf_up okp v _ c (Option.some.inj h)
      rw [mainL_len]
      omega
    have hrl := mainL_len ps qs f
    have hrat : ∀ v, v < ps.length + 1 → ∃ o, (mainL ps qs f)[v]? = some o := fun v hv => ⟨_, mainL_at hv⟩
    generalize hR : mainL ps qs f = row at hmm hrow hrl hrat
    refine ⟨by show 0 ≤ sizeLine; decide, fun F hF => ?_⟩
    have s2 : Same H1 (upd H1 F (.lst [])) := sm0 hF
    refine ⟨_, rfl, t, Ad11, dx, _, _, rfl, (s1.trans s2) _ _ ht, T.lTree, T.nTree_nodes, l1, 1, (ps.length : Int) + 1, rfl, ⟨by decide, by decide, by omega, by omega⟩, ?_⟩
    rw [show ((ps.length : Int) + 1 - 1).toNat = ps.length by omega]
    refine for_range (lo := 1) (n := ps.length) (fun m σ H' => ∃ (v3 v4 : Option V) (xs : List V), σ = [some (.ref t), some (.ref hm), some (.ref F), v3, v4] ∧ Same H1 H' ∧ H' F = some (.lst xs) ∧ TupsV H' xs (pathsTo ps row m))
      ⟨none, none, [], rfl, s2, upd_same, rfl, fun i v l h => by simp at h⟩ (fun m σ H' hml h => ?_) fun σ H' h => ?_
    · obtain ⟨v3, v4, xs, rfl, sh, hFm, hT⟩ := h
      have ev : (1 : Int) + (m : Nat) = ((m + 1 : Nat) : Int) := by omega
      rw [ev]
      obtain ⟨p, hp⟩ : ∃ p, ps[m]? = some p := ⟨_, List.getElem?_eq_getElem hml⟩
      have ok := okp m p hp
      obtain ⟨pn, rfl⟩ : ∃ pn : Nat, p = (pn : Int) := ⟨p.toNat, by have := ok.1; omega⟩
      have hpm : pn ≤ m := by have := ok.2; omega
      have sH := s1.trans sh
      have htt := sH _ _ ht
      have haa := sH _ _ ha
      have hmm' := sh _ _ hmm
      obtain ⟨o, ho⟩ := hrat pn (by omega)
      have ex : pathsTo ps row (m + 1) = pathsTo ps row m ++ (if (pn : Int) = 0 ∨ row[pn]? ≠ some (some (m + 1)) then [pn :: down row (row.length - (m + 1)) (m + 1)] else []) := by
        show pathsTo ps row m ++ (match ps[m]? with | some p => _ | none => _) = _
        rw [hp]
        show _ ++ (if (pn : Int) = 0 ∨ row[(pn : Int).toNat]? ≠ _ then [(pn : Int).toNat :: _] else _) = _
        rw [Int.toNat_natCast]
      have add : ((pn : Int) = 0 ∨ row[pn]? ≠ some (some (m + 1))) → ∀ q H2, Same H' H2 → H2 q = some (.tup ((pn :: down row (row.length - (m + 1)) (m + 1)).map fun i => V.int (i : Nat))) → Same H1 (upd H2 F (.lst (xs ++ [.ref q]))) ∧ TupsV (upd H2 F (.lst (xs ++ [.ref q]))) (xs ++ [.ref q]) (pathsTo ps row (m + 1)) := fun hc q H2 s3 hq => by
        have hF2 := s3 _ _ hFm
        refine ⟨smM (sh.trans s3) hF, ?_⟩
        rw [ex, if_pos hc]
        have t1 := tups_snoc (hT.same s3) hq
        refine ⟨t1.1, fun i v l a b => ?_⟩
        obtain ⟨r, h1, h2⟩ := t1.2 i v l a b
        exact ⟨r, h1, by rw [upd_ne (ne_of h2 hF2 (by intro z; cases z))]; exact h2⟩
      have lenx : xs.length < sizeLine := sz_lt (by have := hT.1; have := paths_len ps row m; omega)
      refine ⟨_, rfl, t, Ad11, dx, _, _, rfl, htt, T.lTree, T.nTree_parents, l2, _, rfl, _, _, rfl, rfl, a, _, _, _, rfl, rfl, SqT.of haa, at_of (j := m) (by omega) (at_ints hp), ?_⟩
      refine ⟨_, rfl, rfl, _, rfl, ifI (fun c => ?_) fun c => ?_⟩
      · refine ⟨_, rfl, .inl ⟨rfl, _, SqL.of hFm⟩, _, rfl, _, rfl, _, rfl, hm, pn, m + 1, row, rfl, hmm', by omega, by omega, hrow, fun q H2 s3 hq => ?_⟩
        obtain ⟨a1, a2⟩ := add (.inl c) q H2 s3 hq
        exact ⟨F, _, _, rfl, rfl, s3 _ _ hFm, lenx, _, _, _, rfl, a1, upd_same, a2⟩
      · have hat : (row.map nV)[pn]? = some (nV o) := by rw [List.getElem?_map, ho]; rfl
        cases o with
        | none =>
          refine ⟨_, rfl, _, rfl, hm, _, _, _, rfl, rfl, SqT.of hmm', atI_nat hat, _, rfl, rfl, _, rfl, ifN (fun _ => ?_) fun z => by cases z⟩
          refine ⟨_, rfl, .inl ⟨rfl, _, SqL.of hFm⟩, _, rfl, _, rfl, _, rfl, hm, pn, m + 1, row, rfl, hmm', by omega, by omega, hrow, fun q H2 s3 hq => ?_⟩
          obtain ⟨a1, a2⟩ := add (.inr (by rw [ho]; intro z; cases z)) q H2 s3 hq
          exact ⟨F, _, _, rfl, rfl, s3 _ _ hFm, lenx, _, _, _, rfl, a1, upd_same, a2⟩
        | some c0 =>
          refine ⟨_, rfl, _, rfl, hm, _, _, _, rfl, rfl, SqT.of hmm', atI_nat hat, _, rfl, rfl, _, rfl, ifIN (fun c2 => ?_) fun c2 => ?_⟩
          · refine ⟨_, rfl, .inl ⟨rfl, _, SqL.of hFm⟩, _, rfl, _, rfl, _, rfl, hm, pn, m + 1, row, rfl, hmm', by omega, by omega, hrow, fun q H2 s3 hq => ?_⟩
            obtain ⟨a1, a2⟩ := add (.inr (by rw [ho]; intro z; cases z; exact c2 rfl)) q H2 s3 hq
            exact ⟨F, _, _, rfl, rfl, s3 _ _ hFm, lenx, _, _, _, rfl, a1, upd_same, a2⟩
          · have ec : c0 = m + 1 := by omega
            refine ⟨_, _, xs, rfl, sh, hFm, ?_⟩
            rw [ex, if_neg, List.append_nil]
            · exact hT
            · rintro (z | z)
              · exact c z
              · exact z (by rw [ho, ec])
    · obtain ⟨v3, v4, xs, rfl, sh, hFm, hT⟩ := h
      refine ⟨_, rfl, ?_⟩
      unfold rTupR
      refine ⟨F, _, rfl, .inl ⟨SqL.of hFm, fun l hl => ?_⟩⟩
      exact k l _ f xs (smN (s1.trans sh) hl) hI upd_same (by rw [hR]; exact hT.same (sm0 hl))
end
end K14
set_option maxRecDepth 100000
set_option maxHeartbeats 4000000
namespace K14
open PySem PySem.Spec PyProof.Rows L2 SI
theorem PoolB.up {H : Hp} {p : Addr} {b c : Nat} (h : PoolB H p b) (hc : b ≤ c) : PoolB H p c := by
  obtain ⟨z, ns, h1, h2, h3, h4⟩ := h
  exact ⟨z, ns, h1, h2, by omega, h4⟩
theorem PoolB.ne {H : Hp} {p l : Addr} {b : Nat} (h : PoolB H p b) (hl : H l = none) : l ≠ p := by
  obtain ⟨z, ns, h1, _⟩ := h
  exact (ne_of_none h1 hl).symm
theorem PoolB.new {H : Hp} {p l : Addr} {b : Nat} {o : HO} (h : PoolB H p b) (hl : H l = none) : PoolB (upd H l o) p b := by
  have n := h.ne hl
  obtain ⟨z, ns, h1, h2⟩ := h
  exact ⟨z, ns, by rw [upd_ne n.symm]; exact h1, h2⟩
theorem PoolB.same {H H' : Hp} {p : Addr} {b : Nat} (h : PoolB H p b) (s : Same H H') : PoolB H' p b := by
  obtain ⟨z, ns, h1, h2⟩ := h
  exact ⟨z, ns, s _ _ h1, h2⟩
theorem PoolB.put {H : Hp} {p a : Addr} {b : Nat} {o : HO} (h : PoolB H p b) (n : a ≠ p) : PoolB (upd H a o) p b := by
  obtain ⟨z, ns, h1, h2⟩ := h
  exact ⟨z, ns, by rw [upd_ne n.symm]; exact h1, h2⟩
theorem But.free {p a : Addr} {H H' : Hp} (s : But p H H') (n : a ≠ p) (h : H' a = none) : H a = none := by
  cases e : H a with
  | none => rfl
  | some o => rw [s a o n e] at h; cases h
theorem pick {L : List Int} {d : Int} (h0 : 0 ≤ d) (h1 : d < L.length) : ∃ z, z ∈ L ∧ atI (L.map V.int) d = some (.int z) := by
  have h : d.toNat < L.length := by omega
  exact ⟨L[d.toNat], List.getElem_mem h, at_of (j := d.toNat) (by omega) (at_ints (List.getElem?_eq_getElem h))⟩
theorem okTo_snoc {ps qs : List Int} {i : Nat} {d r : Int} (h1 : ps.length = i) (h2 : qs.length = i) (h : okTo ps qs i) (e : okE i d r) : okTo (ps ++ [d]) (qs ++ [r]) (i + 1) := by
  intro j p q hj hp hq
  by_cases c : j < i
  · rw [List.getElem?_append_left (by omega)] at hp hq
    exact h j p q c hp hq
  · obtain rfl : j = i := by omega
    rw [List.getElem?_append_right (by omega), h1, Nat.sub_self] at hp
    rw [List.getElem?_append_right (by omega), h2, Nat.sub_self] at hq
    cases hp
    cases hq
    exact e
theorem big6 {b : Nat} (h : b ≤ 10 ^ 7) : b ≤ 10 ^ 100 := Nat.le_trans h (Nat.pow_le_pow_right (by decide) (by decide))
/-- what is due of Tree(parents, prices): nothing, or the error as a row -/
inductive DueIs (ps qs : List Int) : Option (List V) → Prop where
  | good (h : okT ps qs) : DueIs ps qs none
  | many (h : 59 < ps.length) : DueIs ps qs (some [.str "BadCount", .str "nodes", .int (ps.length + 1)])
  | width (h : ps.length ≤ 59) (h2 : qs.length ≠ ps.length) : DueIs ps qs (some [.str "WrongWidth", .int (qs.length : Nat), .int (ps.length : Nat)])
  | par (h : ps.length ≤ 59) (h2 : qs.length = ps.length) (i : Nat) (h3 : badPar ps qs i) : DueIs ps qs (some [.str "BadParent", .int (i : Nat)])
  | pri (h : ps.length ≤ 59) (h2 : qs.length = ps.length) (i : Nat) (h3 : badPri ps qs i) : DueIs ps qs (some [.str "BadPrice", .int (i : Nat)])
def dueV (H : Hp) (q : Addr) : Option (List V) → Prop
  | none => H q = some (.tup [])
  | some xs => ∃ r, H q = some (.tup [.ref r]) ∧ H r = some (.tup xs)
/-! equal data -/
section
variable {H : Hp} {a b : Addr} {d : Nat}
theorem da_map {α : Type} {F : α → V} {xs : List α} (ha : H a = some (.tup (xs.map F))) (hb : H b = some (.tup (xs.map F))) (hz : xs.length ≤ 100000) (h : ∀ x ∈ xs, Da H d (F x) (F x)) : Da H (d + 1) (.ref a) (.ref b) :=
  .tup d a b _ _ ha hb rfl (by rw [List.length_map]; exact hz) fun i x y h1 h2 => by
    rw [h1] at h2
    cases h2
    rw [List.getElem?_map] at h1
    cases e : xs[i]? with
    | none => rw [e] at h1; cases h1
    | some z => rw [e] at h1; cases h1; exact h z (List.mem_of_getElem? e)
theorem da_ints {ns : List Int} (ha : H a = some (.tup (ns.map V.int))) (hb : H b = some (.tup (ns.map V.int))) (hz : ns.length ≤ 100000) : Da H (d + 1) (.ref a) (.ref b) := da_map ha hb hz fun x _ => .int d x
theorem da_one {x y : V} (ha : H a = some (.tup [x])) (hb : H b = some (.tup [y])) (h : Da H d x y) : Da H (d + 1) (.ref a) (.ref b) := .tup d a b _ _ ha hb rfl (by show 1 ≤ 100000; decide) fun i u v h1 h2 => by
  cases i with
  | zero => cases h1; cases h2; exact h
  | succ i => simp at h1
theorem da_two {x y x' y' : V} (ha : H a = some (.tup [x, x'])) (hb : H b = some (.tup [y, y'])) (h : Da H d x y) (h' : Da H d x' y') : Da H (d + 1) (.ref a) (.ref b) := .tup d a b _ _ ha hb rfl (by show 2 ≤ 100000; decide) fun i u v h1 h2 => by
  cases i with
  | zero => cases h1; cases h2; exact h
  | succ i => cases i with
    | zero => cases h1; cases h2; exact h'
    | succ i => simp at h1
theorem da_tups {xs ys : List V} {ls : List (List Nat)} (ha : H a = some (.tup xs)) (hb : H b = some (.tup ys)) (h1 : TupsV H xs ls) (h2 : TupsV H ys ls) (hz : ls.length ≤ 100000) (hl : ∀ l ∈ ls, l.length ≤ 100000) : Da H (d + 2) (.ref a) (.ref b) :=
  .tup (d + 1) a b _ _ ha hb (by rw [h1.1, h2.1]) (by rw [h2.1]; exact hz) fun i x y e1 e2 => by
    obtain ⟨l, hli⟩ : ∃ l, ls[i]? = some l := ⟨_, List.getElem?_eq_getElem (by rw [← h1.1]; exact (List.getElem?_eq_some_iff.mp e1).1)⟩
    obtain ⟨r, rfl, hr⟩ := h1.2 i x l e1 hli
    obtain ⟨t, rfl, ht⟩ := h2.2 i y l e2 hli
    exact da_map hr ht (hl l (List.mem_of_getElem? hli)) fun x _ => .int d _
theorem da_str {s t : Str} {n m : V} (hs : s = t) (hsh : SeqAt.shaped (.str t) = true) (h : Da H d n m) (ha : H a = some (.tup [.str s, n])) (hb : H b = some (.tup [.str t, m])) : Da H (d + 1) (.ref a) (.ref b) := by
  subst hs
  exact da_two ha hb (.str d _ hsh) h
end
theorem TreeAt.but {C p t : Addr} {H H' : Hp} {ps qs : List Int} {b : Nat} (h : TreeAt C H t ps qs) (hp : PoolB H p b) (s : But p H H') : TreeAt C H' t ps qs := by
  obtain ⟨z, ns, hp, _⟩ := hp
  obtain ⟨dx, a, b, h1, h2, h3⟩ := h
  exact ⟨dx, a, b, s _ _ (ne_of h1 hp (by intro z; cases z)) h1, s _ _ (ne_of h2 hp (by intro z; cases z)) h2, s _ _ (ne_of h3 hp (by intro z; cases z)) h3⟩
theorem no_bad {ps qs : List Int} (ok : okT ps qs) {Ad2 Ad6 Ad9 Ad10 x : Addr} {fs : List (Str × V)} (h : BadT Ad2 Ad6 Ad9 Ad10 ps qs x fs) : False := by
  cases h with
  | many h => have := ok.1; omega
  | width h h2 => exact h2 ok.2.1
  | par h h2 i h3 =>
    obtain ⟨_, p, hp, c⟩ := h3
    have hi := (List.getElem?_eq_some_iff.mp hp).1
    obtain ⟨q, hq⟩ : ∃ q, qs[i]? = some q := ⟨_, List.getElem?_eq_getElem (by omega)⟩
    have := ok.2.2 i p q hi hp hq
    have := this.1
    have := (ok.2.2 i p q hi hp hq).2.1
    omega
  | pri h h2 i h3 =>
    obtain ⟨_, ⟨p, hp, _⟩, q, hq, c⟩ := h3
    have hi := (List.getElem?_eq_some_iff.mp hp).1
    have := (ok.2.2 i p q hi hp hq).2.2
    have h1 := this.1
    have h2 := this.2
    omega
/-- Tree(a, b) of good rows -/
theorem mk_ok {K : PySem.W.Frag} {Ad2 Ad6 Ad9 Ad10 C : Addr} {H1 : Hp} {a b x dx : Addr} {ps qs : List Int} {Q : VK} {E : XK} (hx : H1 x = none) (hdx : H1 dx = none) (ok : okT ps qs) (ha : RowR K H1 a ps) (hb : RowR K H1 b qs)
    (k : ∀ H', Same H1 H' → TreeAt C H' x ps qs → Q .non H') : spTree K Ad2 Ad6 Ad9 Ad10 C (.ref x :: ([.ref a, .ref b] ++ [])) (upd (upd H1 dx (.own x)) x (.ins C dx [])) Q E := by
  have s0 : Same H1 (upd (upd H1 dx (.own x)) x (.ins C dx [])) := smM (sm0 hdx) hx
  exact ⟨x, dx, a, b, ps, qs, rfl, upd_same, ha.same s0, hb.same s0, fun _ H' hb' ht => k H' (fun c o e => hb' c o (ne_of_none e hx) (s0 _ _ e)) ht, fun y fs hbad => (no_bad ok hbad).elim⟩
section
variable {ps qs : List Int}
theorem par_not {i : Nat} (h : badPar ps qs i) (hl : qs.length = ps.length) {n : Nat} (ok : okTo ps qs n) : n ≤ i := by
  rcases Nat.lt_or_ge i n with c | c
  · obtain ⟨_, p, hp, hb⟩ := h
    have hi := (List.getElem?_eq_some_iff.mp hp).1
    obtain ⟨q, hq⟩ : ∃ q, qs[i]? = some q := ⟨_, List.getElem?_eq_getElem (by omega)⟩
    have := ok i p q c hp hq
    have h1 := this.1
    have h2 := this.2.1
    omega
  · exact c
theorem pri_not {i : Nat} (h : badPri ps qs i) {n : Nat} (ok : okTo ps qs n) : n ≤ i := by
  rcases Nat.lt_or_ge i n with c | c
  · obtain ⟨_, ⟨p, hp, _⟩, q, hq, hb⟩ := h
    have := (ok i p q c hp hq).2.2
    have h1 := this.1
    have h2 := this.2
    omega
  · exact c
theorem due_uniq {o o' : Option (List V)} (h : DueIs ps qs o) (h' : DueIs ps qs o') : o = o' := by
  cases h with
  | good ok => cases h' with
    | good => rfl
    | many h => have := ok.1; omega
    | width h h2 => exact absurd ok.2.1 h2
    | par h h2 i h3 => exact (no_bad ok (BadT.par (Ad2 := 0) (Ad6 := 0) (Ad9 := 0) (Ad10 := 0) h h2 i h3)).elim
    | pri h h2 i h3 => exact (no_bad ok (BadT.pri (Ad2 := 0) (Ad6 := 0) (Ad9 := 0) (Ad10 := 0) h h2 i h3)).elim
  | many g => cases h' with
    | good ok => have := ok.1; omega
    | many h => rfl
    | width h h2 => omega
    | par h h2 i h3 => omega
    | pri h h2 i h3 => omega
  | width g g2 => cases h' with
    | good ok => exact absurd ok.2.1 g2
    | many h => omega
    | width h h2 => rfl
    | par h h2 i h3 => exact absurd h2 g2
    | pri h h2 i h3 => exact absurd h2 g2
  | par g g2 j g3 => cases h' with
    | good ok => exact (no_bad ok (BadT.par (Ad2 := 0) (Ad6 := 0) (Ad9 := 0) (Ad10 := 0) g g2 j g3)).elim
    | many h => omega
    | width h h2 => exact absurd g2 h2
    | par h h2 i h3 =>
      have a1 := par_not g3 g2 h3.1
      have a2 := par_not h3 g2 g3.1
      obtain rfl : i = j := by omega
      rfl
    | pri h h2 i h3 =>
      have a1 := par_not g3 g2 h3.1
      have a2 := pri_not h3 g3.1
      obtain rfl : i = j := by omega
      obtain ⟨_, p, hp, hb⟩ := g3
      obtain ⟨_, ⟨p', hp', c1, c2⟩, _⟩ := h3
      rw [hp] at hp'
      cases hp'
      omega
  | pri g g2 j g3 => cases h' with
    | good ok => exact (no_bad ok (BadT.pri (Ad2 := 0) (Ad6 := 0) (Ad9 := 0) (Ad10 := 0) g g2 j g3)).elim
    | many h => omega
    | width h h2 => exact absurd g2 h2
    | par h h2 i h3 =>
      have a1 := par_not h3 g2 g3.1
      have a2 := pri_not g3 h3.1
      obtain rfl : i = j := by omega
      obtain ⟨_, p, hp, hb⟩ := h3
      obtain ⟨_, ⟨p', hp', c1, c2⟩, _⟩ := g3
      rw [hp] at hp'
      cases hp'
      omega
    | pri h h2 i h3 =>
      have a1 := pri_not g3 h3.1
      have a2 := pri_not h3 g3.1
      obtain rfl : i = j := by omega
      rfl
theorem due_row {H : Hp} {xs : List V} (h : DueIs ps qs (some xs)) : xs.length ≤ 3 ∧ ∀ x ∈ xs, Da H 0 x x := by
  have st : ∀ {s : Str}, SeqAt.shaped (.str s) = true → Da H 0 (.str s) (.str s) := fun h => .str 0 _ h
  cases h with
  | many => exact ⟨by simp, fun x hx => by
      rcases List.mem_cons.mp hx with rfl | hx
      · exact st (by decide +kernel)
      rcases List.mem_cons.mp hx with rfl | hx
      · exact st (by decide +kernel)
      rcases List.mem_cons.mp hx with rfl | hx
      · exact .int 0 _
      cases hx⟩
  | width => exact ⟨by simp, fun x hx => by
      rcases List.mem_cons.mp hx with rfl | hx
      · exact st (by decide +kernel)
      rcases List.mem_cons.mp hx with rfl | hx
      · exact .int 0 _
      rcases List.mem_cons.mp hx with rfl | hx
      · exact .int 0 _
      cases hx⟩
  | par => exact ⟨by simp, fun x hx => by
      rcases List.mem_cons.mp hx with rfl | hx
      · exact st (by decide +kernel)
      rcases List.mem_cons.mp hx with rfl | hx
      · exact .int 0 _
      cases hx⟩
  | pri => exact ⟨by simp, fun x hx => by
      rcases List.mem_cons.mp hx with rfl | hx
      · exact st (by decide +kernel)
      rcases List.mem_cons.mp hx with rfl | hx
      · exact .int 0 _
      cases hx⟩
theorem dueV.same {H H' : Hp} {q : Addr} (s : Same H H') : ∀ {o : Option (List V)}, dueV H q o → dueV H' q o
  | none, h => s _ _ h
  | some xs, ⟨r, h1, h2⟩ => ⟨r, s _ _ h1, s _ _ h2⟩
theorem due_da {H : Hp} {q q' : Addr} : ∀ {o : Option (List V)}, DueIs ps qs o → dueV H q o → dueV H q' o → Da H 2 (.ref q) (.ref q')
  | none, _, h1, h2 => da_map (F := fun x : V => x) (xs := []) h1 h2 (by decide) fun x hx => by cases hx
  | some xs, h, ⟨r, h1, h2⟩, ⟨r', h3, h4⟩ => da_one h1 h3 (da_map (F := fun x : V => x) (xs := xs) (by rw [List.map_id']; exact h2) (by rw [List.map_id']; exact h4) (by have := (due_row (H := H) h).1; omega) (due_row h).2)
end
/-! each node but the root is in one path, behind its top -/
def tails (ls : List (List Nat)) : List Nat := (ls.map List.tail).flatten
theorem tails_app (l k : List (List Nat)) : tails (l ++ k) = tails l ++ tails k := by unfold tails; rw [List.map_append, List.flatten_append]
section
variable {ps : List Int} {row : List (Option Nat)}
def nx (row : List (Option Nat)) (v u : Nat) : Bool := decide (row[u]? = some (some v))
theorem down_count (hrow : ∀ (v c : Nat), row[v]? = some (some c) → v < c ∧ c < row.length) (v : Nat) : ∀ (k s : Nat), s < row.length → row.length - s ≤ k →
    (down row k s).count v = (if s = v then 1 else 0) + (down row k s).countP (nx row v)
  | 0, s, h1, h2 => by omega
  | k + 1, s, h1, h2 => by
    cases e : row[s]? with
    | none => rw [List.getElem?_eq_none_iff] at e; omega
    | some o =>
      cases o with
      | none =>
        have ed : down row (k + 1) s = [s] := by
          show s :: (match row[s]? with | some (some c) => down row k c | _ => []) = _
          rw [e]
        have en : nx row v s = false := by unfold nx; rw [e]; simp
        rw [ed, List.count_cons, List.countP_cons, en]
        simp
      | some c =>
        have ed : down row (k + 1) s = s :: down row k c := by
          show s :: (match row[s]? with | some (some c) => down row k c | _ => []) = _
          rw [e]
        have hc := hrow s c e
        have ih := down_count hrow v k c hc.2 (by omega)
        have en : nx row v s = decide (c = v) := by unfold nx; rw [e]; simp
        rw [ed, List.count_cons, List.countP_cons, en, ih]
        by_cases c1 : c = v <;> by_cases c2 : s = v <;> simp [c1, c2] <;> omega
theorem down_mem (hrow : ∀ (v c : Nat), row[v]? = some (some c) → v < c ∧ c < row.length) {u : Nat} : ∀ (k s : Nat), s < row.length → u ∈ down row k s → s ≤ u ∧ u < row.length
  | 0, s, h1, h2 => by cases h2
  | k + 1, s, h1, h2 => by
    have h3 : u ∈ s :: (match row[s]? with | some (some c) => down row k c | _ => []) := h2
    rcases List.mem_cons.mp h3 with rfl | h3
    · exact ⟨Nat.le_refl _, h1⟩
    · cases e : row[s]? with
      | none => rw [e] at h3; cases h3
      | some o =>
        rw [e] at h3
        cases o with
        | none => cases h3
        | some c =>
          have hc := hrow s c e
          have := down_mem hrow k c hc.2 h3
          exact ⟨by omega, this.2⟩
def stt (ps : List Int) (row : List (Option Nat)) (m : Nat) : Bool := match ps[m]? with
  | some p => decide (p = 0 ∨ row[p.toNat]? ≠ some (some (m + 1)))
  | none => false
theorem tails_next (m : Nat) : tails (pathsTo ps row (m + 1)) = tails (pathsTo ps row m) ++ (if stt ps row m = true then down row (row.length - (m + 1)) (m + 1) else []) := by
  show tails (pathsTo ps row m ++ _) = _
  rw [tails_app]
  congr 1
  unfold stt
  cases e : ps[m]? with
  | none => rfl
  | some p =>
    show tails (if p = 0 ∨ row[p.toNat]? ≠ some (some (m + 1)) then _ else _) = if decide (p = 0 ∨ row[p.toNat]? ≠ some (some (m + 1))) = true then _ else _
    by_cases c : p = 0 ∨ row[p.toNat]? ≠ some (some (m + 1))
    · rw [if_pos c, if_pos (decide_eq_true c)]
      unfold tails
      simp
    · rw [if_neg c, if_neg (by simpa using c)]
      rfl
theorem tails_mem (hrow : ∀ (v c : Nat), row[v]? = some (some c) → v < c ∧ c < row.length) {u : Nat} : ∀ m, m < row.length → u ∈ tails (pathsTo ps row m) → 1 ≤ u ∧ u < row.length
  | 0, _, h => by cases h
  | m + 1, hm, h => by
    rw [tails_next, List.mem_append] at h
    rcases h with h | h
    · exact tails_mem hrow m (by omega) h
    · split at h
      · have := down_mem hrow _ _ hm h
        exact ⟨by omega, this.2⟩
      · cases h
theorem tails_count (hrow : ∀ (v c : Nat), row[v]? = some (some c) → v < c ∧ c < row.length) (v : Nat) (hv : 1 ≤ v) : ∀ m, m < row.length →
    (tails (pathsTo ps row m)).count v = (if v ≤ m ∧ stt ps row (v - 1) = true then 1 else 0) + (tails (pathsTo ps row m)).countP (nx row v)
  | 0, _ => by
    rw [if_neg (by omega)]
    rfl
  | m + 1, hm => by
    rw [tails_next, List.count_append, List.countP_append, tails_count hrow v hv m (by omega)]
    by_cases c : stt ps row m = true
    · rw [if_pos c, down_count hrow v _ (m + 1) hm (Nat.le_refl _)]
      by_cases e : m + 1 = v
      · subst e
        rw [if_neg (fun z : m + 1 ≤ m ∧ stt ps row (m + 1 - 1) = true => by omega), if_pos rfl, if_pos ⟨Nat.le_refl _, by rw [Nat.add_sub_cancel]; exact c⟩]
        omega
      · rw [if_neg e]
        by_cases c2 : v ≤ m ∧ stt ps row (v - 1) = true
        · rw [if_pos c2, if_pos ⟨by omega, c2.2⟩]; omega
        · rw [if_neg c2, if_neg (fun z => c2 ⟨by omega, z.2⟩)]; omega
    · rw [if_neg c]
      have : (v ≤ m + 1 ∧ stt ps row (v - 1) = true) ↔ (v ≤ m ∧ stt ps row (v - 1) = true) := by
        refine ⟨fun z => ⟨?_, z.2⟩, fun z => ⟨by omega, z.2⟩⟩
        by_cases e : v = m + 1
        · subst e; rw [Nat.add_sub_cancel] at z; exact absurd z.2 c
        · omega
      simp only [this, List.count_nil, List.countP_nil, Nat.add_zero]
theorem tails_once (hrow : ∀ (v c : Nat), row[v]? = some (some c) → v < c ∧ c < row.length) (hpar : ∀ (v c : Nat), row[v]? = some (some c) → ps[c - 1]? = some (v : Int)) (hl : row.length = ps.length + 1)
    (okp : ∀ (i : Nat) (p : Int), ps[i]? = some p → 0 ≤ p ∧ p ≤ i) (v : Nat) (h1 : 1 ≤ v) (h2 : v ≤ ps.length) : (tails (pathsTo ps row ps.length)).count v = 1 := by
  induction v using Nat.strongRecOn with
  | ind v ih =>
    rw [tails_count hrow v h1 ps.length (by omega)]
    obtain ⟨p, hp⟩ : ∃ p, ps[v - 1]? = some p := ⟨_, List.getElem?_eq_getElem (by omega)⟩
    have ok := okp _ _ hp
    obtain ⟨pn, rfl⟩ : ∃ pn : Nat, p = (pn : Int) := ⟨p.toNat, by omega⟩
    have es : stt ps row (v - 1) = decide ((pn : Int) = 0 ∨ row[pn]? ≠ some (some v)) := by
      unfold stt
      rw [hp, show v - 1 + 1 = v by omega]
      rfl
    have par : ∀ u, nx row v u = true → u = pn := fun u hu => by
      unfold nx at hu
      rw [decide_eq_true_eq] at hu
      have := hpar u v hu
      rw [hp] at this
      have := Option.some.inj this
      omega
    by_cases c : (pn : Int) = 0 ∨ row[pn]? ≠ some (some v)
    · rw [if_pos ⟨h2, by rw [es]; exact decide_eq_true c⟩]
      have z : (tails (pathsTo ps row ps.length)).countP (nx row v) = 0 := by
        rw [List.countP_eq_zero]
        intro u hu hx
        have e := par u hx
        have hm := tails_mem hrow _ (by omega) hu
        subst e
        rcases c with c | c
        · omega
        · unfold nx at hx
          rw [decide_eq_true_eq] at hx
          exact c hx
      rw [z]
    · rw [if_neg (fun z => by rw [es, decide_eq_true_eq] at z; exact c z.2)]
      have c1 : (pn : Int) ≠ 0 := fun z => c (.inl z)
      have c2 : row[pn]? = some (some v) := Classical.byContradiction fun z => c (.inr z)
      have e : (tails (pathsTo ps row ps.length)).countP (nx row v) = (tails (pathsTo ps row ps.length)).count pn := by
        unfold List.count
        apply List.countP_congr
        intro u _
        rw [beq_iff_eq]
        refine ⟨par u, fun z => ?_⟩
        subst z
        unfold nx
        exact decide_eq_true c2
      rw [e, ih pn (by omega) (by omega) (by omega)]
theorem tails_perm (hrow : ∀ (v c : Nat), row[v]? = some (some c) → v < c ∧ c < row.length) (hpar : ∀ (v c : Nat), row[v]? = some (some c) → ps[c - 1]? = some (v : Int)) (hl : row.length = ps.length + 1)
    (okp : ∀ (i : Nat) (p : Int), ps[i]? = some p → 0 ≤ p ∧ p ≤ i) : (tails (pathsTo ps row ps.length)).Perm (List.range' 1 ps.length) := by
  rw [List.perm_iff_count]
  intro v
  rw [List.count_range_1']
  split
  · exact tails_once hrow hpar hl okp v (by omega) (by omega)
  · rename_i h
    rw [List.count_eq_zero]
    intro hm
    have := tails_mem hrow _ (by omega) hm
    omega
end
theorem mainOf_par {ps qs f : List Int} (v : Nat) : ∀ m c, mainOf ps qs f v m = some c → ps[c - 1]? = some (v : Int)
  | 0, c, h => by cases h
  | m + 1, c, h => by
    have h' : (match mainOf ps qs f v m with | some c => some c | none => if hit ps qs f v m = true then some (m + 1) else none) = some c := h
    cases e : mainOf ps qs f v m with
    | some c' =>
      rw [e] at h'
      cases h'
      exact mainOf_par v m c e
    | none =>
      rw [e] at h'
      by_cases hh : hit ps qs f v m = true
      · have h2 : (if hit ps qs f v m = true then some (m + 1) else none) = some c := h'
        rw [if_pos hh] at h2
        cases h2
        unfold hit at hh
        rw [Bool.and_eq_true, decide_eq_true_eq] at hh
        exact hh.1
      · have h2 : (if hit ps qs f v m = true then some (m + 1) else none) = some c := h'
        rw [if_neg hh] at h2
        cases h2
theorem paths_perm {ps qs f : List Int} (ok : okT ps qs) : (tails (pathsTo ps (mainL ps qs f) ps.length)).Perm (List.range' 1 ps.length) := by
  have okp : ∀ (i : Nat) (p : Int), ps[i]? = some p → 0 ≤ p ∧ p ≤ i := fun i p hp => by
    obtain ⟨q, hq⟩ : ∃ q, qs[i]? = some q := ⟨_, List.getElem?_eq_getElem (by have := (List.getElem?_eq_some_iff.mp hp).1; have := ok.2.1; omega)⟩
    have := ok.2.2 i p q (List.getElem?_eq_some_iff.mp hp).1 hp hq
    exact ⟨this.1, this.2.1⟩
  have at_ : ∀ (v c : Nat), (mainL ps qs f)[v]? = some (some c) → mainOf ps qs f v ps.length = some c := fun v c h => by
    have hv : v < ps.length + 1 := by rw [← mainL_len ps qs f]; exact (List.getElem?_eq_some_iff.mp h).1
    rw [mainL_at hv] at h
    exact Option.some.inj h
  refine tails_perm (fun v c h => ?_) (fun v c h => mainOf_par v _ c (at_ v c h)) (mainL_len ps qs f) okp
  have := mainOf_up okp v _ c (at_ v c h)
  rw [mainL_len]
  omega
theorem paths_ne {ps : List Int} {row : List (Option Nat)} : ∀ m, ∀ l ∈ pathsTo ps row m, 0 < l.length ∧ l.length ≤ row.length + 1
  | 0, l, h => by cases h
  | m + 1, l, h => by
    have h' : l ∈ pathsTo ps row m ++ (match ps[m]? with
      | some p => if p = 0 ∨ row[p.toNat]? ≠ some (some (m + 1)) then [p.toNat :: down row (row.length - (m + 1)) (m + 1)] else []
      | none => []) := h
    rcases List.mem_append.mp h' with h2 | h2
    · exact paths_ne m l h2
    · split at h2
      · split at h2
        · rw [List.mem_singleton] at h2
          subst h2
          have := down_len row (row.length - (m + 1)) (m + 1)
          simp
          omega
        · cases h2
      · cases h2
end K14
set_option maxRecDepth 100000
set_option maxHeartbeats 4000000
namespace K14
open PySem PySem.Spec PyProof.Rows L2 SI
local macro_rules | `(tactic| walk_at "lk") => `(tactic| first | exact lk_hit | exact lk_nil | (refine lk_next (by decide +kernel) ?_; walk_at "lk"))
theorem ip_mulW {X : Cx} : PIp X .Mult (rI CMulW fun i j => .int (i * j)) := opI fun _ _ _ _ _ _ _ hc q => imul_int q hc.ok
/-! the two numbers of a tree's line -/
def pw (qs : List Int) (v : Nat) : Int := qs.getD (v - 1) 1
def ht (f : List Int) (v : Nat) : Int := f.getD v 1
def gn (qs f : List Int) (u : Nat) : Int := (pw qs u - 1) * ht f u
def rst (qs f : List Int) : Nat → Int
  | 0 => 0
  | i + 1 => rst qs f i + gn qs f (i + 1)
def LineIs (ps qs : List Int) (a b : Int) : Prop := ∃ f, IsH ps qs 0 f ∧ a = ht f 0 ∧ b = 1 - a + rst qs f ps.length
theorem line_uniq {ps qs : List Int} {a b a' b' : Int} (ok : okT ps qs) (h : LineIs ps qs a b) (h' : LineIs ps qs a' b') : a = a' ∧ b = b' := by
  obtain ⟨f, h1, h2, h3⟩ := h
  obtain ⟨g, h4, h5, h6⟩ := h'
  obtain rfl := isH_uniq ok.2.1 ok.2.2 h1 h4
  subst h2 h5
  exact ⟨rfl, by rw [h3, h6]⟩
theorem ht_of {f : List Int} {v : Nat} {x : Int} (h : f[v]? = some x) : ht f v = x := by unfold ht; rw [List.getD_eq_getElem?_getD, h]; rfl
theorem pw_of {qs : List Int} {v : Nat} {x : Int} (h : qs[v]? = some x) : pw qs (v + 1) = x := by unfold pw; rw [Nat.add_sub_cancel, List.getD_eq_getElem?_getD, h]; rfl
theorem IsH.bnd {ps qs f : List Int} (h : IsH ps qs 0 f) (v : Nat) : 1 ≤ ht f v ∧ ht f v ≤ 31 ^ (ps.length + 1) := by
  cases e : f[v]? with
  | some x =>
    rw [ht_of e]
    have := h.pos v x e
    exact ⟨this.1, Int.le_trans this.2 (pow31_le (by omega))⟩
  | none =>
    have : ht f v = 1 := by unfold ht; rw [List.getD_eq_getElem?_getD, e]; rfl
    rw [this]
    exact ⟨by decide, pow31 _⟩
theorem line_bnd {ps qs : List Int} {a b : Int} (ok : okT ps qs) (h : LineIs ps qs a b) : 1 ≤ a ∧ a ≤ 10 ^ 150 := by
  obtain ⟨f, h1, h2, h3⟩ := h
  have := h1.bnd 0
  rw [h2]
  have hl := ok.1
  have e1 : (31 : Int) ^ (ps.length + 1) ≤ 31 ^ 60 := pow31_le (by omega)
  have e2 : (31 : Int) ^ 60 ≤ 10 ^ 150 := by decide +kernel
  exact ⟨this.1, by omega⟩
def prodL (qs : List Int) : List Nat → Int
  | [] => 1
  | v :: r => pw qs v * prodL qs r
theorem prodL_snoc (qs : List Int) (v : Nat) : ∀ l, prodL qs (l ++ [v]) = prodL qs l * pw qs v
  | [] => by show pw qs v * 1 = 1 * pw qs v; omega
  | x :: l => by show pw qs x * prodL qs (l ++ [v]) = pw qs x * prodL qs l * pw qs v; rw [prodL_snoc qs v l, Int.mul_assoc]
theorem prodL_bnd {qs : List Int} : ∀ l : List Nat, (∀ u ∈ l, 1 ≤ pw qs u ∧ pw qs u ≤ 31) → 1 ≤ prodL qs l ∧ prodL qs l ≤ 31 ^ l.length
  | [], _ => ⟨Int.le_refl _, Int.le_refl _⟩
  | v :: l, h => by
    have ih := prodL_bnd l fun u hu => h u (List.mem_cons_of_mem _ hu)
    have hv := h v List.mem_cons_self
    show 1 ≤ pw qs v * prodL qs l ∧ pw qs v * prodL qs l ≤ 31 ^ (l.length + 1)
    have m1 : (1 : Int) * 1 ≤ pw qs v * prodL qs l := Int.mul_le_mul hv.1 ih.1 (by decide) (by omega)
    have m2 : pw qs v * prodL qs l ≤ 31 * 31 ^ l.length := Int.mul_le_mul hv.2 ih.2 (by omega) (by decide)
    rw [Int.pow_succ, Int.mul_comm (31 ^ l.length)]
    exact ⟨by omega, m2⟩
theorem pw_ok {ps qs : List Int} (ok : okT ps qs) {u : Nat} (h1 : 1 ≤ u) (h2 : u ≤ ps.length) : 2 ≤ pw qs u ∧ pw qs u ≤ 31 := by
  obtain ⟨p, hp⟩ : ∃ p, ps[u - 1]? = some p := ⟨_, List.getElem?_eq_getElem (by omega)⟩
  obtain ⟨q, hq⟩ : ∃ q, qs[u - 1]? = some q := ⟨_, List.getElem?_eq_getElem (by have := ok.2.1; omega)⟩
  have := (ok.2.2 (u - 1) p q (by omega) hp hq).2.2
  have e := pw_of hq
  rw [show u - 1 + 1 = u by omega] at e
  rw [e]
  exact this
section
variable {ps qs f : List Int}
theorem main_rest {v : Nat} : ∀ m c, mainOf ps qs f v m = some c → v < f.length → c ≤ qs.length → c < f.length → pw qs c * ht f c = ht f v
  | 0, c, h, _, _, _ => by cases h
  | m + 1, c, h, hv, hq, hc => by
    have h' : (match mainOf ps qs f v m with | some c => some c | none => if hit ps qs f v m = true then some (m + 1) else none) = some c := h
    cases e : mainOf ps qs f v m with
    | some c' =>
      rw [e] at h'
      cases h'
      exact main_rest m c e hv hq hc
    | none =>
      rw [e] at h'
      by_cases hh : hit ps qs f v m = true
      · have h2 : (if hit ps qs f v m = true then some (m + 1) else none) = some c := h'
        rw [if_pos hh] at h2
        cases h2
        unfold hit rests at hh
        rw [Bool.and_eq_true] at hh
        obtain ⟨q, hq'⟩ : ∃ q, qs[m]? = some q := ⟨_, List.getElem?_eq_getElem (by omega)⟩
        obtain ⟨x, hx⟩ : ∃ x, f[m + 1]? = some x := ⟨_, List.getElem?_eq_getElem hc⟩
        obtain ⟨y, hy⟩ : ∃ y, f[v]? = some y := ⟨_, List.getElem?_eq_getElem hv⟩
        have h3 := hh.2
        rw [hq', hx, hy] at h3
        rw [pw_of hq', ht_of hx, ht_of hy]
        exact of_decide_eq_true h3
      · have h2 : (if hit ps qs f v m = true then some (m + 1) else none) = some c := h'
        rw [if_neg hh] at h2
        cases h2
theorem main_none {v i : Nat} (hh : hit ps qs f v i = true) : ∀ m, i < m → mainOf ps qs f v m ≠ none
  | 0, h => by omega
  | m + 1, h => by
    show (match mainOf ps qs f v m with | some c => some c | none => if hit ps qs f v m = true then some (m + 1) else none) ≠ none
    by_cases c : i = m
    · subst c
      cases e : mainOf ps qs f v i with
      | some c => intro z; cases z
      | none => intro z; have z' : (if hit ps qs f v i = true then some (i + 1) else none) = none := z; rw [if_pos hh] at z'; cases z'
    · have := main_none hh m (by omega)
      cases e : mainOf ps qs f v m with
      | some c => intro z; cases z
      | none => exact absurd e this
theorem leaf_one (ok : okT ps qs) (hI : IsH ps qs 0 f) {v : Nat} (hv : v < ps.length + 1) (h : mainOf ps qs f v ps.length = none) : ht f v = 1 := by
  obtain ⟨y, hy⟩ : ∃ y, f[v]? = some y := ⟨_, List.getElem?_eq_getElem (by rw [hI.len]; exact hv)⟩
  rw [ht_of hy]
  rcases hI.att v y hy with h1 | ⟨i, q, x, _, hp, hq, hx, e⟩
  · exact h1
  · have hh : hit ps qs f v i = true := by
      unfold hit rests
      rw [hq, hx, hy, Bool.and_eq_true]
      exact ⟨decide_eq_true hp, decide_eq_true e.symm⟩
    exact absurd h (main_none hh _ (List.getElem?_eq_some_iff.mp hp).1)
theorem down_sum (ok : okT ps qs) (hI : IsH ps qs 0 f) : ∀ (k v : Nat), v < ps.length + 1 → ps.length + 1 - v ≤ k →
    prodL qs (down (mainL ps qs f) k v) = pw qs v * ht f v ∧ ((down (mainL ps qs f) k v).map (gn qs f)).sum = pw qs v * ht f v - 1
  | 0, v, h1, h2 => by omega
  | k + 1, v, h1, h2 => by
    have okp : ∀ (i : Nat) (p : Int), ps[i]? = some p → 0 ≤ p ∧ p ≤ i := fun i p hp => by
      obtain ⟨q, hq⟩ : ∃ q, qs[i]? = some q := ⟨_, List.getElem?_eq_getElem (by have := (List.getElem?_eq_some_iff.mp hp).1; have := ok.2.1; omega)⟩
      have := ok.2.2 i p q (List.getElem?_eq_some_iff.mp hp).1 hp hq
      exact ⟨this.1, this.2.1⟩
    have ed : down (mainL ps qs f) (k + 1) v = v :: (match (mainL ps qs f)[v]? with | some (some c) => down (mainL ps qs f) k c | _ => []) := rfl
    rw [mainL_at h1] at ed
    cases e : mainOf ps qs f v ps.length with
    | none =>
      rw [e] at ed
      have ed' : down (mainL ps qs f) (k + 1) v = [v] := ed
      rw [ed', leaf_one ok hI h1 e]
      refine ⟨rfl, ?_⟩
      show (pw qs v - 1) * ht f v + 0 = _
      rw [leaf_one ok hI h1 e]
      omega
    | some c =>
      rw [e] at ed
      have ed' : down (mainL ps qs f) (k + 1) v = v :: down (mainL ps qs f) k c := ed
      have hc := mainOf_up okp v _ c e
      obtain ⟨i1, i2⟩ := down_sum ok hI k c (by omega) (by omega)
      have er := main_rest _ c e (by rw [hI.len]; exact h1) (by have := ok.2.1; omega) (by rw [hI.len]; omega)
      rw [er] at i1 i2
      rw [ed']
      refine ⟨by show pw qs v * prodL qs _ = _; rw [i1], ?_⟩
      show (pw qs v - 1) * ht f v + ((down (mainL ps qs f) k c).map (gn qs f)).sum = _
      rw [i2, Int.sub_mul]
      omega
theorem sum_perm {l k : List Int} (h : l.Perm k) : l.sum = k.sum := by
  induction h with
  | nil => rfl
  | cons x _ ih => rw [List.sum_cons, List.sum_cons, ih]
  | swap x y l => rw [List.sum_cons, List.sum_cons, List.sum_cons, List.sum_cons]; omega
  | trans _ _ i j => exact i.trans j
/-- the sum over the paths -/
def pSum (qs : List Int) (ls : List (List Nat)) : Int := (ls.map fun l => prodL qs l.tail - 1).sum
theorem paths_is {row : List (Option Nat)} : ∀ m, ∀ l ∈ pathsTo ps row m, ∃ p s, l = p :: down row (row.length - s) s ∧ 1 ≤ s ∧ s ≤ m
  | 0, l, h => by cases h
  | m + 1, l, h => by
    have h' : l ∈ pathsTo ps row m ++ (match ps[m]? with
      | some p => if p = 0 ∨ row[p.toNat]? ≠ some (some (m + 1)) then [p.toNat :: down row (row.length - (m + 1)) (m + 1)] else []
      | none => []) := h
    rcases List.mem_append.mp h' with h2 | h2
    · obtain ⟨p, s, e, h3, h4⟩ := paths_is m l h2
      exact ⟨p, s, e, h3, by omega⟩
    · split at h2
      · split at h2
        · rw [List.mem_singleton] at h2
          exact ⟨_, m + 1, h2, by omega, by omega⟩
        · cases h2
      · cases h2
theorem pSum_tails {ls : List (List Nat)} (h : ∀ l ∈ ls, prodL qs l.tail - 1 = (l.tail.map (gn qs f)).sum) : pSum qs ls = ((tails ls).map (gn qs f)).sum := by
  induction ls with
  | nil => rfl
  | cons l ls ih =>
    have e : tails (l :: ls) = l.tail ++ tails ls := rfl
    rw [e, List.map_append, List.sum_append, ← ih fun l hl => h l (List.mem_cons_of_mem _ hl), ← h l List.mem_cons_self]
    rfl
theorem rst_range : ∀ n, ((List.range' 1 n).map (gn qs f)).sum = rst qs f n
  | 0 => rfl
  | n + 1 => by
    rw [List.range'_1_concat, List.map_append, List.sum_append, rst_range n, Nat.add_comm 1 n]
    show _ + (gn qs f (n + 1) + 0) = _
    rw [Int.add_zero]
    rfl
theorem pSum_is (ok : okT ps qs) (hI : IsH ps qs 0 f) : pSum qs (pathsTo ps (mainL ps qs f) ps.length) = rst qs f ps.length := by
  rw [← rst_range, ← sum_perm ((paths_perm ok).map (gn qs f))]
  refine pSum_tails fun l hl => ?_
  obtain ⟨p, s, rfl, h1, h2⟩ := paths_is _ l hl
  obtain ⟨i1, i2⟩ := down_sum ok hI (ps.length + 1 - s) s (by omega) (Nat.le_refl _)
  rw [mainL_len]
  show prodL qs (down (mainL ps qs f) (ps.length + 1 - s) s) - 1 = ((down (mainL ps qs f) (ps.length + 1 - s) s).map (gn qs f)).sum
  rw [i1, i2]
theorem paths_in (ok : okT ps qs) : ∀ l ∈ pathsTo ps (mainL ps qs f) ps.length, 0 < l.length ∧ l.length ≤ 100 ∧ ∀ u ∈ l.tail, 1 ≤ u ∧ u ≤ ps.length := by
  intro l hl
  have hn := paths_ne (ps := ps) (row := mainL ps qs f) ps.length l hl
  have hlen := mainL_len ps qs f
  refine ⟨hn.1, by have := ok.1; omega, fun u hu => ?_⟩
  have hm : u ∈ tails (pathsTo ps (mainL ps qs f) ps.length) := by
    unfold tails
    exact List.mem_flatten.mpr ⟨l.tail, List.mem_map.mpr ⟨l, hl, rfl⟩, hu⟩
  have := ((paths_perm (f := f) ok).mem_iff).mp hm
  rw [List.mem_range'_1] at this
  omega
end
theorem cut_tail {l : List Nat} (h : 0 < l.length) : cutV (l.map fun i => V.int (i : Nat)) (some 1) none = l.tail.map fun i => V.int (i : Nat) := by
  unfold cutV
  have e : HT.sIx (l.map fun i => V.int (i : Nat)).length 0 (some 1) = 1 := (HT.sIx_nat _ 0 1).trans (by rw [List.length_map]; omega)
  rw [e, HT.sIx_none, List.take_of_length_le (by rw [List.length_drop]; omega), ← List.map_drop, List.drop_one]
def spPProd (C : Addr) : Sp := fun vs H Q _ => ∃ (t r : Addr) (ps qs : List Int) (l : List Nat), vs = [.ref t, .ref r] ∧ TreeAt C H t ps qs ∧ okT ps qs ∧ H r = some (.tup (l.map fun i => V.int (i : Nat))) ∧ 0 < l.length ∧ l.length ≤ 100 ∧ (∀ u ∈ l.tail, 1 ≤ u ∧ u ≤ ps.length) ∧
  ∀ H', Same H H' → Q (.int (prodL qs l.tail)) H'
def spLine (C : Addr) : Sp := fun vs H Q _ => ∃ (t : Addr) (ps qs : List Int), vs = [.ref t] ∧ TreeAt C H t ps qs ∧ okT ps qs ∧ ∀ a b q H', Same H H' → LineIs ps qs a b → H' q = some (.tup [.int a, .int b]) → Q (.ref q) H'
def spWanted (C2 : Addr) : Sp := fun vs H Q E => ∃ n : Int, vs = [.int n] ∧ (1 ≤ n → n ≤ 1000000 → Q .non H) ∧ ((n < 1 ∨ 1000000 < n) → ∀ d, H d = none → E (.ref C2) (some d) (upd H d (.xd [("many", .int n), ("what", .str "many")])))
def spEnough (C2 C : Addr) : Sp := fun vs H Q E => ∃ (t : Addr) (n : Int) (ps qs : List Int), vs = [.ref t, .int n] ∧ TreeAt C H t ps qs ∧ okT ps qs ∧ (1 ≤ n → n ≤ 1000000 → ∀ a b H', Same H H' → LineIs ps qs a b → Q (.int (a * n + b)) H') ∧
  ((n < 1 ∨ 1000000 < n) → ∀ d, H d = none → E (.ref C2) (some d) (upd H d (.xd [("many", .int n), ("what", .str "many")])))
section
variable {P : Program} {w : World} {K : PySem.W.Frag} {mg : Str → Option Value} {base : Heap} {Ad1 Ad2 Ad3 Ad4 Ad5 Ad6 Ad9 Ad10 Ad11 Ad12 : Addr}
theorem scPathProduct : FnScope ["tree", "path", "product", "node"] ["tree", "path"] (defScope sPathProduct) := ⟨rfl, rfl, rfl, by decide +kernel, rfl, by decide +kernel, by decide +kernel⟩
theorem ok_PathProduct (T : Txt P w K mg base Ad1 Ad2 Ad3 Ad4 Ad5 Ad6 Ad9 Ad10 Ad11 Ad12) : Cl P w K mg base 1 "path_product" (spPProd Ad11) [] := by
  refine cl_of T.d_path_product scPathProduct (fun vs H Q E h => ?_) fun f cdv A outer s H vs Q E hr h => ?_
  · obtain ⟨t, r, ps, qs, l, rfl, _⟩ := h
    rfl
  · obtain ⟨t, r, ps, qs, l, rfl, hT, ok, hr1, hl1, hl2, hin, k⟩ := h
    refine ⟨_, (pss_cons (ps_set (i := 2) scPathProduct.nd rfl (by first | exact Or.inl rfl | exact Or.inr rfl) pe_int)
  (pss_cons (ps_for (passes_of rfl) rfl (pi_tup (pe_slice sl_tupA (pv 1) (po_some pe_int) po_none)) (pg_name (i := 3) scPathProduct.nd rfl (by first | exact Or.inl rfl | exact Or.inr rfl))
    (pss_one (ps_aug (i := 2) scPathProduct.nd rfl (by first | exact Or.inl rfl | exact Or.inr rfl) (pe_ix ix_tup (pe_fld (pv 0) rfl) (pe_op op_sub (pv 3) pe_int) (fun _ _ => rfl)) ip_mulW)))
  (pss_one (ps_ret (pv 2))))), ?_⟩
    have hpw : ∀ u ∈ l.tail, 1 ≤ pw qs u ∧ pw qs u ≤ 31 := fun u hu => by have := pw_ok ok (hin u hu).1 (hin u hu).2; omega
    refine ⟨_, rfl, _, rfl, r, _, rfl, SqT.of hr1, (fun z => absurd z.1 ?_), fun _ p hp1 => ?_⟩
    · rw [show HT.sIx (l.map fun i => V.int (i : Nat)).length 0 (some 1) = 1 from (HT.sIx_nat _ 0 1).trans (by rw [List.length_map]; omega)]
      decide
    rw [cut_tail hl1]
    have s1 := sm0 (o := .tup (l.tail.map fun i => V.int (i : Nat))) hp1
    refine ⟨p, rfl, ⟨_, SqT.of upd_same⟩, for_tup (K := K) (a := p) (xs := l.tail.map fun i => V.int (i : Nat)) (fun i σ H' => ∃ v3 : Option V, σ = [some (.ref t), some (.ref r), some (.int (prodL qs (l.tail.take i))), v3] ∧ H' = upd H p (.tup (l.tail.map fun i => V.int (i : Nat))))
      ⟨none, rfl, rfl⟩ (fun i σ H' _ h => by obtain ⟨_, _, rfl⟩ := h; exact SqT.of upd_same) (fun i x σ H' hx h => ?_) fun σ H' h => ?_⟩
    · obtain ⟨v3, rfl, rfl⟩ := h
      rw [List.getElem?_map] at hx
      obtain ⟨u, hu⟩ : ∃ u, l.tail[i]? = some u := by cases e : l.tail[i]? with | none => rw [e] at hx; cases hx | some u => exact ⟨u, rfl⟩
      rw [hu] at hx
      cases hx
      have hum := List.mem_of_getElem? hu
      have hu1 := hin u hum
      obtain ⟨dx, t1, t2, ht, h1, h2⟩ := hT.same s1
      have l3 : (treeF (ps.length + 1) t1 t2).lookup ("prices" : Str) = some (V.ref t2) := by walk_at "lk"
      obtain ⟨q, hq⟩ : ∃ q, qs[u - 1]? = some q := ⟨_, List.getElem?_eq_getElem (by have := ok.2.1; omega)⟩
      have eq := pw_of hq
      rw [show u - 1 + 1 = u by omega] at eq
      have hb := prodL_bnd (qs := qs) (l.tail.take i) fun v hv => hpw v (List.mem_of_mem_take hv)
      have hb2 : prodL qs (l.tail.take i) ≤ 10 ^ 200 := by
        have e1 : (31 : Int) ^ (l.tail.take i).length ≤ 31 ^ 100 := pow31_le (by rw [List.length_take, List.length_tail]; omega)
        have e2 : (31 : Int) ^ 100 ≤ 10 ^ 200 := by decide +kernel
        omega
      have hqb := hpw u hum
      rw [eq] at hqb
      refine ⟨_, rfl, _, rfl, t, Ad11, dx, _, _, rfl, ht, T.lTree, T.nTree_prices, l3, _, rfl, _, _, rfl, rfl, t2, _, _, _, rfl, rfl, SqT.of h2, at_of (j := u - 1) (by omega) (at_ints hq), ?_⟩
      refine ⟨_, _, rfl, rfl, cmul_small (abs_small (by omega) hb2) (abs_small (by omega) (by omega)), ?_⟩
      refine ⟨some (.int (u : Nat)), ?_, rfl⟩
      rw [List.take_succ, hu, Option.toList_some, prodL_snoc, eq]
      rfl
    · obtain ⟨v3, rfl, rfl⟩ := h
      rw [List.length_map, List.take_length]
      exact ⟨_, rfl, k _ s1⟩
theorem scLine : FnScope ["tree", "slope", "start", "path"] ["tree"] (defScope sLine) := ⟨rfl, rfl, rfl, by decide +kernel, rfl, by decide +kernel, by decide +kernel⟩
theorem ok_Line (T : Txt P w K mg base Ad1 Ad2 Ad3 Ad4 Ad5 Ad6 Ad9 Ad10 Ad11 Ad12) : Cl P w K mg base 4 "line" (spLine Ad11) [] := by
  have c_Heights := (ok_Heights T).cl
  have c_Paths := (ok_Paths T).cl
  have c_PathProduct := ok_PathProduct T
  refine cl_of T.d_line scLine (fun vs H Q E h => ?_) fun f cdv A outer s H vs Q E hr h => ?_
  · obtain ⟨t, ps, qs, rfl, _⟩ := h
    rfl
  · obtain ⟨t, ps, qs, rfl, hT, ok, k⟩ := h
    refine ⟨_, (pss_cons (ps_set (i := 1) scLine.nd rfl (by first | exact Or.inl rfl | exact Or.inr rfl) (pe_ix ix_tup (pe_c c_Heights hr (by decide) rfl (pa_cons (pv 0) pa_nil)) pe_int (fun _ _ => rfl)))
  (pss_cons (ps_set (i := 2) scLine.nd rfl (by first | exact Or.inl rfl | exact Or.inr rfl) (pe_op op_sub pe_int (pv 1)))
  (pss_cons (ps_for (passes_of rfl) rfl (pi_tup (pe_c c_Paths hr (by decide) rfl (pa_cons (pv 0) pa_nil))) (pg_name (i := 3) scLine.nd rfl (by first | exact Or.inl rfl | exact Or.inr rfl))
    (pss_one (ps_aug (i := 2) scLine.nd rfl (by first | exact Or.inl rfl | exact Or.inr rfl) (pe_op op_sub (pe_c c_PathProduct hr (by decide) rfl (pa_cons (pv 0) (pa_cons (pv 3) pa_nil))) pe_int) ip_add)))
  (pss_one (ps_ret (pe_tup (pa_cons (pv 1) (pa_cons (pv 2) pa_nil)))))))), ?_⟩
    refine ⟨_, rfl, t, ps, qs, rfl, hT, ok, fun q H1 f s1 hI hq => ?_⟩
    obtain ⟨a, ha⟩ : ∃ a, f[0]? = some a := ⟨_, List.getElem?_eq_getElem (by rw [hI.len]; omega)⟩
    refine ⟨q, _, _, _, rfl, rfl, SqT.of hq, at_of (j := 0) rfl (at_ints ha), ?_⟩
    refine ⟨_, rfl, _, _, rfl, rfl, ?_⟩
    refine ⟨_, rfl, t, ps, qs, rfl, hT.same s1, ok, fun rq H2 f2 xs s2 hI2 hrq hTu => ?_⟩
    obtain rfl := isH_uniq ok.2.1 ok.2.2 hI hI2
    have hin := paths_in (f := f) ok
    refine ⟨rq, rfl, ⟨xs, SqT.of hrq⟩, for_tup (K := K) (a := rq) (xs := xs) (fun i σ H' => ∃ v3 : Option V, σ = [some (.ref t), some (.int a), some (.int (1 - a + pSum qs ((pathsTo ps (mainL ps qs f) ps.length).take i))), v3] ∧ Same H2 H')
      ⟨none, by show _ = [some (V.ref t), some (V.int a), some (V.int (1 - a + 0)), none]; rw [Int.add_zero]; rfl, Same.refl H2⟩ (fun i σ H' _ h => by obtain ⟨_, _, sh⟩ := h; exact SqT.of (sh _ _ hrq)) (fun i x σ H' hx h => ?_) fun σ H' h => ?_⟩
    · obtain ⟨v3, rfl, sh⟩ := h
      obtain ⟨l, hli⟩ : ∃ l, (pathsTo ps (mainL ps qs f) ps.length)[i]? = some l := ⟨_, List.getElem?_eq_getElem (by rw [← hTu.1]; exact (List.getElem?_eq_some_iff.mp hx).1)⟩
      obtain ⟨r, rfl, hr1⟩ := hTu.2 i x l hx hli
      have hl := hin l (List.mem_of_getElem? hli)
      refine ⟨_, rfl, _, rfl, _, rfl, t, r, ps, qs, l, rfl, hT.same ((s1.trans s2).trans sh), ok, sh _ _ hr1, hl.1, hl.2.1, hl.2.2, fun H3 s3 => ?_⟩
      refine ⟨_, _, rfl, rfl, _, _, rfl, rfl, ?_⟩
      refine ⟨some (.ref r), ?_, sh.trans s3⟩
      rw [List.take_succ, hli, Option.toList_some]
      have e : pSum qs (List.take i (pathsTo ps (mainL ps qs f) ps.length) ++ [l]) = pSum qs (List.take i (pathsTo ps (mainL ps qs f) ps.length)) + (prodL qs l.tail - 1) := by
        unfold pSum
        rw [List.map_append, List.sum_append]
        show _ + ((prodL qs l.tail - 1) + 0) = _
        rw [Int.add_zero]
      rw [e, ← Int.add_assoc]
      rfl
    · obtain ⟨v3, rfl, sh⟩ := h
      rw [hTu.1, List.take_length, pSum_is ok hI]
      refine ⟨_, rfl, _, rfl, by show 2 ≤ sizeLine; decide, fun z hz => ?_⟩
      exact k a _ z _ (smN ((s1.trans s2).trans sh) hz) ⟨f, hI, (ht_of ha).symm, rfl⟩ upd_same
theorem scCheckWanted : FnScope ["many"] ["many"] (defScope sCheckWanted) := ⟨rfl, rfl, rfl, by decide +kernel, rfl, by decide +kernel, by decide +kernel⟩
theorem ok_CheckWanted (T : Txt P w K mg base Ad1 Ad2 Ad3 Ad4 Ad5 Ad6 Ad9 Ad10 Ad11 Ad12) : Cl P w K mg base 3 "check_wanted" (spWanted Ad2) [] := by
  refine cl_of T.d_check_wanted scCheckWanted (fun vs H Q E h => ?_) fun f cdv A outer s H vs Q E hr h => ?_
  · obtain ⟨n, rfl, _⟩ := h
    rfl
  · obtain ⟨n, rfl, k1, k2⟩ := h
    refine ⟨_, (pss_one (ps_if (PW.pt (pw_or (pt_cmpR op_lt (pv 0) pe_int (nomark _)) (pw_or1 (pt_cmpR op_gt (pv 0) (pe_const rfl T.c_MOST_MANY) (nomark _)))))
    (pss_one (ps_raise rfl (takes_of rfl rfl rfl rfl) (pmk_rs T.rBadCount hr (by decide) rfl (pa_cons pe_str (pa_cons (pv 0) pa_nil)))))
    pss_nil)), ?_⟩
    refine ⟨_, rfl, _, _, rfl, rfl, _, rfl, ifD (fun c => ?_) fun c => ?_⟩
    · exact ⟨_, rfl, _, ⟨_, _, rfl, ⟨_, rfl, by decide +kernel⟩, rfl⟩, fun d hd => k2 (.inl c) d hd⟩
    refine ⟨_, rfl, _, _, rfl, rfl, _, rfl, ifD (fun c2 => ?_) fun c2 => ?_⟩
    · exact ⟨_, rfl, _, ⟨_, _, rfl, ⟨_, rfl, by decide +kernel⟩, rfl⟩, fun d hd => k2 (.inr c2) d hd⟩
    · exact k1 (by omega) (by omega)
theorem scTreeEnough : FnScope ["tree", "many", "slope", "start"] ["tree", "many"] (defScope sTreeEnough) := ⟨rfl, rfl, rfl, by decide +kernel, rfl, by decide +kernel, by decide +kernel⟩
theorem ok_TreeEnough (T : Txt P w K mg base Ad1 Ad2 Ad3 Ad4 Ad5 Ad6 Ad9 Ad10 Ad11 Ad12) : CdD P w K mg base 5 "tree_enough" sTreeEnough ["tree", "many"] (spEnough Ad2 Ad11) [.int 1] := by
  have c_CheckWanted := ok_CheckWanted T
  have c_Line := ok_Line T
  refine cdd_of T.d_tree_enough scTreeEnough (fun vs H Q E h => ?_) fun f cdv A outer s H vs Q E hr h => ?_
  · obtain ⟨t, n, ps, qs, rfl, _⟩ := h
    rfl
  · obtain ⟨t, n, ps, qs, rfl, hT, ok, k1, k2⟩ := h
    refine ⟨_, (pss_cons (ps_expr (pe_cX (takes_of rfl rfl rfl rfl) c_CheckWanted hr (by decide) rfl (pa_cons (pv 1) pa_nil)))
  (pss_cons (ps_asg (pe_c c_Line hr (by decide) rfl (pa_cons (pv 0) pa_nil)) (pg_tup rfl (pgs_cons (pg_name (i := 2) scTreeEnough.nd rfl (by first | exact Or.inl rfl | exact Or.inr rfl)) (pgs_cons (pg_name (i := 3) scTreeEnough.nd rfl (by first | exact Or.inl rfl | exact Or.inr rfl)) pgs_nil))))
  (pss_one (ps_ret (pe_op op_add (pe_op op_mulW (pv 2) (pv 1)) (pv 3)))))), ?_⟩
    refine ⟨_, rfl, n, rfl, fun c1 c2 => ?_, fun c d hd => k2 c d hd⟩
    refine ⟨_, rfl, t, ps, qs, rfl, hT, ok, fun a b q H1 s1 hL hq => ?_⟩
    have hb := line_bnd ok hL
    refine ⟨q, _, rfl, SqT.of hq, rfl, _, _, rfl, _, _, rfl, rfl, ?_⟩
    refine ⟨_, rfl, _, rfl, _, _, rfl, rfl, cmul_small (abs_small (by omega) (by omega)) (abs_small (by omega) (by omega)), _, rfl, _, _, rfl, rfl, ?_⟩
    exact k1 c1 c2 a b H1 s1 hL
end
end K14
set_option maxRecDepth 100000
set_option maxHeartbeats 4000000
namespace K14
open PySem PySem.Spec PyProof.Rows L2 SI
local macro_rules | `(tactic| walk_at "lk") => `(tactic| first | exact lk_hit | exact lk_nil | (refine lk_next (by decide +kernel) ?_; walk_at "lk"))
def tMonoE (t : TE) : TE := fun σ H Q => ∃ Q' : VK, t σ H Q' ∧ ∀ v H1, Q' v H1 → Q v H1
theorem pe_mono {X : Cx} {e : Expr} {t : TE} (h : PE X e t) : PE X e (tMonoE t) := ⟨fun pins s σ H Q I ⟨Q', q, m⟩ => thn (h.run pins s σ H Q' I q) fun u s1 ⟨v, H1, I1, r1, q1⟩ => ⟨v, H1, I1, r1, m v H1 q1⟩⟩
/-- two rows of ints, one behind the other -/
@[irreducible] def rCatR (K : PySem.W.Frag) : R2 := fun x y H Q => ∃ (a b : Addr) (xs ys : List Int), x = .ref a ∧ y = .ref b ∧ H a = some (.tup (xs.map V.int)) ∧ H b = some (.tup (ys.map V.int)) ∧ xs.length + ys.length ≤ 100000 ∧
  ∀ q H', Same H H' → H' q = some (.tup ((xs ++ ys).map V.int)) → Q (.ref q) H'
theorem op_catR {X : Cx} : OpR X (binaryOp .Add) (rCatR X.K) := by
  intro pins s σ H x y v u Q I rx ry h
  unfold rCatR at h
  obtain ⟨a, b, xs, ys, rfl, rfl, ha, hb, hz, k⟩ := h
  refine op_catA pins s σ H _ _ v u Q I rx ry ⟨a, b, _, _, rfl, rfl, SqT.of ha, SqT.of hb, sz_small (by rw [List.length_map, List.length_map]; exact hz), fun e => ?_, fun _ e => ?_, fun _ _ p hp => ?_⟩
  · obtain rfl := List.map_eq_nil_iff.mp e
    exact k b H (Same.refl H) hb
  · obtain rfl := List.map_eq_nil_iff.mp e
    rw [List.append_nil] at k
    exact k a H (Same.refl H) ha
  · exact k p _ (sm0 hp) (by rw [upd_same, List.map_append])
theorem cat_of {K : PySem.W.Frag} {H : Hp} {a b : Addr} {xs ys : List Int} {Q : VK} (ha : H a = some (.tup (xs.map V.int))) (hb : H b = some (.tup (ys.map V.int))) (hz : xs.length + ys.length ≤ 100000)
    (k : ∀ q H', Same H H' → H' q = some (.tup ((xs ++ ys).map V.int)) → Q (.ref q) H') : rCatR K (.ref a) (.ref b) H Q := by
  unfold rCatR
  exact ⟨a, b, xs, ys, rfl, rfl, ha, hb, hz, k⟩
/-! the rows of the grown trees -/
def pathP (n : Nat) : List Int := (List.range n).map fun i : Nat => (i : Int)
def starP (n : Nat) : List Int := List.replicate n 0
def stemP (ps : List Int) : List Int := 0 :: ps.map (· + 1)
def gl (n : Nat) (p : Int) : Int := if p = 0 then 0 else n + p
def glueP (ps ps' : List Int) : List Int := ps ++ ps'.map (gl ps.length)
def parOk (A : List Int) : Prop := ∀ (i : Nat) p, A[i]? = some p → 0 ≤ p ∧ p ≤ i
theorem okT.par {ps qs : List Int} (ok : okT ps qs) : parOk ps := fun i p hp => by
  obtain ⟨q, hq⟩ : ∃ q, qs[i]? = some q := ⟨_, List.getElem?_eq_getElem (by have := (List.getElem?_eq_some_iff.mp hp).1; have := ok.2.1; omega)⟩
  have := ok.2.2 i p q (List.getElem?_eq_some_iff.mp hp).1 hp hq
  exact ⟨this.1, this.2.1⟩
theorem par_path (n : Nat) : parOk (pathP n) := fun i p hp => by
  unfold pathP at hp
  rw [List.getElem?_map] at hp
  have hi : i < n := by
    rcases Nat.lt_or_ge i n with h | h
    · exact h
    · rw [List.getElem?_eq_none (by rw [List.length_range]; exact h)] at hp; cases hp
  rw [List.getElem?_range hi] at hp
  have e : ((i : Nat) : Int) = p := Option.some.inj hp
  omega
theorem par_star (n : Nat) : parOk (starP n) := fun i p hp => by
  unfold starP at hp
  rw [List.getElem?_replicate] at hp
  split at hp <;> cases hp
  omega
theorem par_stem {ps : List Int} (h : parOk ps) : parOk (stemP ps) := fun i p hp => by
  cases i with
  | zero => cases hp; omega
  | succ i =>
    have hp' : (ps.map (· + 1))[i]? = some p := hp
    rw [List.getElem?_map] at hp'
    cases e : ps[i]? with
    | none => rw [e] at hp'; cases hp'
    | some x => rw [e] at hp'; have e2 : x + 1 = p := Option.some.inj hp'; have := h i x e; omega
theorem par_hung {ps : List Int} (h : parOk ps) {v : Int} (h0 : 0 ≤ v) (h1 : v ≤ ps.length) : parOk (ps ++ [v]) := fun i p hp => by
  rcases Nat.lt_or_ge i ps.length with c | c
  · rw [List.getElem?_append_left c] at hp; exact h i p hp
  · rw [List.getElem?_append_right c] at hp
    cases e : i - ps.length with
    | zero => rw [e] at hp; cases hp; omega
    | succ j => rw [e] at hp; simp at hp
theorem par_glue {ps ps' : List Int} (h : parOk ps) (h' : parOk ps') : parOk (glueP ps ps') := fun i p hp => by
  unfold glueP at hp
  rcases Nat.lt_or_ge i ps.length with c | c
  · rw [List.getElem?_append_left c] at hp; exact h i p hp
  · rw [List.getElem?_append_right c, List.getElem?_map] at hp
    cases e : ps'[i - ps.length]? with
    | none => rw [e] at hp; cases hp
    | some x =>
      rw [e] at hp
      cases hp
      have := h' _ x e
      unfold gl
      split <;> omega
theorem len_path (n : Nat) : (pathP n).length = n := by unfold pathP; simp
theorem len_star (n : Nat) : (starP n).length = n := by unfold starP; simp
theorem len_stem (ps : List Int) : (stemP ps).length = ps.length + 1 := by unfold stemP; simp
theorem len_glue (ps ps' : List Int) : (glueP ps ps').length = ps.length + ps'.length := by unfold glueP; simp
end K14
set_option maxRecDepth 100000
set_option maxHeartbeats 4000000
namespace K14
open PySem PySem.Spec PyProof.Rows L2 SI
local macro_rules | `(tactic| walk_at "lk") => `(tactic| first | exact lk_hit | exact lk_nil | (refine lk_next (by decide +kernel) ?_; walk_at "lk"))
/-! the ways up: from low, after k steps, and the product of the prices -/
def up1 (ps : List Int) (v : Nat) : Nat := if v = 0 then 0 else (ps.getD (v - 1) 0).toNat
def pr1 (qs : List Int) (v : Nat) : Int := if v = 0 then 1 else qs.getD (v - 1) 1
def anc (ps : List Int) (low : Nat) : Nat → Nat
  | 0 => low
  | k + 1 => up1 ps (anc ps low k)
def prd (ps qs : List Int) (low : Nat) : Nat → Int
  | 0 => 1
  | k + 1 => prd ps qs low k * pr1 qs (anc ps low k)
section
variable {ps qs : List Int}
theorem edge_of (ok : okT ps qs) {v : Nat} (h0 : 0 < v) (h1 : v ≤ ps.length) : ∃ (p : Nat) (q : Int), ps[v - 1]? = some (p : Int) ∧ qs[v - 1]? = some q ∧ p < v ∧ 2 ≤ q ∧ q ≤ 31 ∧ up1 ps v = p ∧ pr1 qs v = q := by
  have hv : v - 1 < ps.length := by omega
  have e1 : ps[v - 1]? = some ps[v - 1] := List.getElem?_eq_getElem hv
  have hv2 : v - 1 < qs.length := by have := ok.2.1; omega
  have e2 : qs[v - 1]? = some qs[v - 1] := List.getElem?_eq_getElem hv2
  obtain ⟨a, b, c, d⟩ := ok.2.2 (v - 1) _ _ hv e1 e2
  refine ⟨ps[v - 1].toNat, qs[v - 1], by rw [e1]; congr 1; omega, e2, by omega, c, d, ?_, ?_⟩
  · unfold up1
    rw [if_neg (by omega), List.getD_eq_getElem?_getD, e1]
    rfl
  · unfold pr1
    rw [if_neg (by omega), List.getD_eq_getElem?_getD, e2]
    rfl
theorem up1_zero : up1 ps 0 = 0 := rfl
theorem anc_le (ok : okT ps qs) {low : Nat} (hl : low ≤ ps.length) : ∀ k, anc ps low k ≤ low ∧ (anc ps low k + k ≤ low ∨ anc ps low k = 0)
  | 0 => ⟨Nat.le_refl _, .inl (Nat.le_refl _)⟩
  | k + 1 => by
    obtain ⟨h1, h2⟩ := anc_le ok hl k
    show up1 ps (anc ps low k) ≤ low ∧ (up1 ps (anc ps low k) + (k + 1) ≤ low ∨ up1 ps (anc ps low k) = 0)
    by_cases c : anc ps low k = 0
    · rw [c]
      exact ⟨Nat.zero_le _, .inr rfl⟩
    · obtain ⟨p, q, _, _, hp, _, _, e, _⟩ := edge_of ok (v := anc ps low k) (by omega) (by omega)
      rw [e]
      exact ⟨by omega, .inl (by omega)⟩
theorem prd_le (ok : okT ps qs) {low : Nat} (hl : low ≤ ps.length) : ∀ k, 1 ≤ prd ps qs low k ∧ prd ps qs low k ≤ 31 ^ (low - anc ps low k)
  | 0 => ⟨Int.le_refl _, by show (1 : Int) ≤ _; exact pow31 _⟩
  | k + 1 => by
    obtain ⟨h1, h2⟩ := prd_le ok hl k
    have ha := (anc_le ok hl k).1
    show 1 ≤ prd ps qs low k * pr1 qs (anc ps low k) ∧ prd ps qs low k * pr1 qs (anc ps low k) ≤ 31 ^ (low - up1 ps (anc ps low k))
    by_cases c : anc ps low k = 0
    · rw [c] at h2 ⊢
      have e : pr1 qs 0 = 1 := rfl
      rw [e, Int.mul_one, up1_zero]
      exact ⟨h1, h2⟩
    · obtain ⟨p, q, _, _, hp, q2, q31, e, e'⟩ := edge_of ok (v := anc ps low k) (by omega) (by omega)
      rw [e, e']
      have m1 : (1 : Int) * 1 ≤ prd ps qs low k * q := Int.mul_le_mul h1 (by omega) (by decide) (by omega)
      have m2 : prd ps qs low k * q ≤ 31 ^ (low - anc ps low k) * 31 := Int.mul_le_mul h2 q31 (by omega) (by have := pow31 (low - anc ps low k); omega)
      rw [← Int.pow_succ] at m2
      exact ⟨by omega, Int.le_trans m2 (pow31_le (by omega))⟩
/-- f holds the greatest product of what is done -/
structure Mx (ps qs : List Int) (S : Nat → Nat → Prop) (f : List Int) : Prop where
  len : f.length = ps.length + 1
  one : ∀ (v : Nat) x, f[v]? = some x → 1 ≤ x
  ge : ∀ low k x, S low k → f[anc ps low k]? = some x → prd ps qs low k ≤ x
  at_ : ∀ (v : Nat) x, f[v]? = some x → x = 1 ∨ ∃ low k, S low k ∧ anc ps low k = v ∧ prd ps qs low k = x
theorem mx_ones : Mx ps qs (fun _ _ => False) (List.replicate (ps.length + 1) 1) where
  len := by simp
  one := fun v x h => by
    rw [List.getElem?_replicate] at h
    split at h <;> cases h
    exact Int.le_refl _
  ge := fun _ _ _ h => h.elim
  at_ := fun v x h => by
    rw [List.getElem?_replicate] at h
    split at h <;> cases h
    exact .inl rfl
theorem mx_step {S S' : Nat → Nat → Prop} {f : List Int} {L t : Nat} {y : Int} (h : Mx ps qs S f) (hy : f[anc ps L t]? = some y) (hS : ∀ low k, S' low k ↔ S low k ∨ (low = L ∧ k = t)) :
    Mx ps qs S' (f.set (anc ps L t) (if prd ps qs L t > y then prd ps qs L t else y)) where
  len := by rw [List.length_set]; exact h.len
  one := fun v x hx => by
    rw [List.getElem?_set] at hx
    split at hx
    · split at hx
      · cases hx
        have := h.one _ _ hy
        split <;> omega
      · cases hx
    · exact h.one _ _ hx
  ge := fun low k x hs hx => by
    have hlt := (List.getElem?_eq_some_iff.mp hy).1
    rw [List.getElem?_set] at hx
    split at hx
    · rename_i e
      cases hx
      rcases (hS low k).mp hs with hs | ⟨rfl, rfl⟩
      · have := h.ge low k y hs (by rw [← e]; exact hy)
        split <;> omega
      · split <;> omega
    · rename_i e
      rcases (hS low k).mp hs with hs | ⟨rfl, rfl⟩
      · exact h.ge low k x hs hx
      · exact absurd rfl e
  at_ := fun v x hx => by
    have hlt := (List.getElem?_eq_some_iff.mp hy).1
    rw [List.getElem?_set] at hx
    split at hx
    · rename_i e
      cases hx
      split
      · exact .inr ⟨L, t, (hS _ _).mpr (.inr ⟨rfl, rfl⟩), e, rfl⟩
      · rcases h.at_ _ _ hy with h1 | ⟨low, k, hs, h1, h2⟩
        · exact .inl h1
        · exact .inr ⟨low, k, (hS _ _).mpr (.inl hs), by rw [h1, e], h2⟩
    · rcases h.at_ _ _ hx with h1 | ⟨low, k, hs, h1, h2⟩
      · exact .inl h1
      · exact .inr ⟨low, k, (hS _ _).mpr (.inl hs), h1, h2⟩
theorem mx_imp {S S' : Nat → Nat → Prop} {f : List Int} (h : Mx ps qs S f) (hS : ∀ low k, S' low k ↔ S low k) : Mx ps qs S' f :=
  ⟨h.len, h.one, fun low k x hs => h.ge low k x ((hS _ _).mp hs), fun v x hx => (h.at_ v x hx).elim .inl fun ⟨low, k, hs, r⟩ => .inr ⟨low, k, (hS _ _).mpr hs, r⟩⟩
theorem mx_isH (ok : okT ps qs) {f : List Int} (h : Mx ps qs (fun low k => low ≤ ps.length ∧ k ≤ ps.length) f) : IsH ps qs 0 f := by
  have up : ∀ (i : Nat) p q x y, ps[i]? = some p → qs[i]? = some q → f[i + 1]? = some x → f[p.toNat]? = some y → q * x ≤ y := by
    intro i p q x y hp hq hx hy
    have hi := (List.getElem?_eq_some_iff.mp hp).1
    obtain ⟨p', q', e1, e2, h3, h4, h5, h6, h7⟩ := edge_of ok (v := i + 1) (by omega) (by omega)
    rw [Nat.add_sub_cancel, hp] at e1
    rw [Nat.add_sub_cancel, hq] at e2
    cases e1
    cases e2
    rw [Int.toNat_natCast] at hy
    have key : ∀ low k, low ≤ ps.length → k ≤ ps.length → anc ps low k = i + 1 → prd ps qs low k = x → q * x ≤ y := by
      intro low k hl hk ha hx'
      have hk2 := (anc_le ok hl k).2
      have e : anc ps low (k + 1) = p' := by show up1 ps (anc ps low k) = p'; rw [ha]; exact h6
      have := h.ge low (k + 1) y ⟨hl, by omega⟩ (by rw [e]; exact hy)
      have e2 : prd ps qs low (k + 1) = x * q := by show prd ps qs low k * pr1 qs (anc ps low k) = _; rw [ha, h7, hx']
      rw [e2, Int.mul_comm] at this
      exact this
    rcases h.at_ _ _ hx with rfl | ⟨low, k, ⟨hl, hk⟩, ha, hx'⟩
    · exact key (i + 1) 0 (by omega) (by omega) rfl rfl
    · exact key low k hl hk ha hx'
  refine ⟨h.len, fun v x hx => ⟨h.one v x hx, ?_⟩, fun i p q x y _ => up i p q x y, fun v y hy => ?_⟩
  · rcases h.at_ _ _ hx with rfl | ⟨low, k, ⟨hl, hk⟩, ha, hx'⟩
    · exact pow31 _
    · have := (prd_le ok hl k).2
      rw [ha, hx'] at this
      exact Int.le_trans this (pow31_le (by omega))
  · rcases h.at_ _ _ hy with rfl | ⟨low, k, ⟨hl, hk⟩, ha, hx'⟩
    · exact .inl rfl
    · clear hk
      induction k with
      | zero => exact .inl hx'.symm
      | succ k ih =>
        have ha' : up1 ps (anc ps low k) = v := ha
        have hx2 : prd ps qs low k * pr1 qs (anc ps low k) = y := hx'
        by_cases c : anc ps low k = 0
        · rw [c] at ha' hx2
          rw [show pr1 qs 0 = 1 from rfl, Int.mul_one] at hx2
          exact ih (by rw [c]; exact ha') hx2
        · have hal := (anc_le ok hl k).1
          obtain ⟨p', q', e1, e2, h3, h4, h5, h6, h7⟩ := edge_of ok (v := anc ps low k) (by omega) (by omega)
          rw [h6] at ha'
          subst ha'
          rw [h7] at hx2
          obtain ⟨x, hx⟩ : ∃ x, f[anc ps low k - 1 + 1]? = some x := ⟨_, List.getElem?_eq_getElem (by rw [h.len]; omega)⟩
          have u := up _ _ _ x y e1 e2 hx (by rw [Int.toNat_natCast]; exact hy)
          rw [show anc ps low k - 1 + 1 = anc ps low k by omega] at hx
          have hk2 := (anc_le ok hl k).2
          have g := h.ge low k x ⟨hl, by omega⟩ hx
          refine .inr ⟨anc ps low k - 1, q', x, Nat.zero_le _, e1, e2, by rw [show anc ps low k - 1 + 1 = anc ps low k by omega]; exact hx, ?_⟩
          have g2 : q' * prd ps qs low k ≤ q' * x := Int.mul_le_mul_of_nonneg_left g (by omega)
          rw [Int.mul_comm] at hx2
          omega
end

theorem mx_more {ps qs : List Int} {S S' : Nat → Nat → Prop} {f : List Int} (h : Mx ps qs S f) (h1 : ∀ low k, S low k → S' low k) (h2 : ∀ low k, S' low k → S low k ∨ prd ps qs low k = 1 ∨ ∃ k', S low k' ∧ anc ps low k' = anc ps low k ∧ prd ps qs low k' = prd ps qs low k) : Mx ps qs S' f :=
  ⟨h.len, h.one, fun low k x hs hx => by
    rcases h2 low k hs with c | c | ⟨k', c, e1, e2⟩
    · exact h.ge low k x c hx
    · rw [c]; exact h.one _ _ hx
    · rw [← e2]; exact h.ge low k' x c (by rw [e1]; exact hx), fun v x hx => (h.at_ v x hx).elim .inl fun ⟨low, k, hs, r⟩ => .inr ⟨low, k, h1 _ _ hs, r⟩⟩
theorem anc_stay {ps qs : List Int} {low t : Nat} (h : anc ps low t = 0) : ∀ k, anc ps low (t + k) = 0 ∧ prd ps qs low (t + k) = prd ps qs low t
  | 0 => ⟨h, rfl⟩
  | k + 1 => by
    obtain ⟨h1, h2⟩ := anc_stay (qs := qs) h k
    refine ⟨?_, ?_⟩
    · show up1 ps (anc ps low (t + k)) = 0
      rw [h1]; rfl
    · show prd ps qs low (t + k) * pr1 qs (anc ps low (t + k)) = _
      rw [h1, h2, show pr1 qs 0 = 1 from rfl, Int.mul_one]
theorem prd0 {ps qs : List Int} (k : Nat) : prd ps qs 0 k = 1 := by
  have := anc_stay (ps := ps) (qs := qs) (low := 0) (t := 0) rfl k
  rw [Nat.zero_add] at this
  exact this.2
def spPool (K : PySem.W.Frag) : Sp := fun vs H Q _ => ∃ (a : Addr) (ns : List Int), vs = [.ref a] ∧ SqL K H a (ns.map V.int) ∧ ns.length ≤ 63 ∧ ∀ p H', Same H H' → H p = none → PoolB H' p 0 → Q (.ref p) H'
def spPRow : Sp := fun vs H Q _ => ∃ (p : Addr) (n : Int) (b : Nat), vs = [.ref p, .int n] ∧ PoolB H p b ∧ b ≤ 10 ^ 6 ∧ 0 ≤ n ∧ n ≤ 59 ∧ ∀ (q : Addr) (ps : List Int) H', But p H H' → PoolB H' p (b + 100) → H q = none → H' q = some (.lst (ps.map V.int)) → (ps.length : Int) = n → parOk ps → Q (.ref q) H'
def spQRow : Sp := fun vs H Q _ => ∃ (p : Addr) (n : Int) (b : Nat), vs = [.ref p, .int n] ∧ PoolB H p b ∧ b ≤ 10 ^ 6 ∧ 0 ≤ n ∧ n ≤ 59 ∧ ∀ (q : Addr) (qs : List Int) H', But p H H' → PoolB H' p (b + 100) → H q = none → H' q = some (.lst (qs.map V.int)) → (qs.length : Int) = n → (∀ x ∈ qs, 2 ≤ x ∧ x ≤ 31) → Q (.ref q) H'
def spHRow : Sp := fun vs H Q _ => ∃ (a b : Addr) (ps qs : List Int), vs = [.ref a, .ref b] ∧ H a = some (.lst (ps.map V.int)) ∧ H b = some (.lst (qs.map V.int)) ∧ okT ps qs ∧ ∀ q H' f, Same H H' → IsH ps qs 0 f → H' q = some (.lst (f.map V.int)) → Q (.ref q) H'
def spLineOf : Sp := fun vs H Q _ => ∃ (a b : Addr) (ps qs : List Int), vs = [.ref a, .ref b] ∧ H a = some (.lst (ps.map V.int)) ∧ H b = some (.lst (qs.map V.int)) ∧ okT ps qs ∧ ∀ x y q H', Same H H' → LineIs ps qs x y → H' q = some (.tup [.int x, .int y]) → Q (.ref q) H'
def spIsTreeX (C : Addr) : Sp := fun vs H Q _ => ∃ (t a b : Addr) (ps qs : List Int), vs = [.ref t, .ref a, .ref b] ∧ TreeAt C H t ps qs ∧ H a = some (.lst (ps.map V.int)) ∧ H b = some (.lst (qs.map V.int)) ∧ okT ps qs ∧ ∀ H', Same H H' → Q (.bl true) H'
def spWrong : Sp := fun vs H Q _ => ∃ (p : Addr) (b : Nat), vs = [.ref p] ∧ PoolB H p b ∧ b ≤ 10 ^ 6 ∧ ∀ z H', But p H H' → PoolB H' p (b + 3) → (z < 2 ∨ 31 < z) → Q (.int z) H'
theorem ok_rows {ps qs : List Int} (h : parOk ps) (hq : ∀ x ∈ qs, 2 ≤ x ∧ x ≤ 31) (hl : qs.length = ps.length) (h59 : ps.length ≤ 59) : okT ps qs := ⟨h59, hl, fun i p q _ hp hq' => ⟨(h i p hp).1, (h i p hp).2, hq q (List.mem_of_getElem? hq')⟩⟩
section
variable {P : Program} {w : World} {K : PySem.W.Frag} {mg : Str → Option Value} {base : Heap} {Ad1 Ad2 Ad3 Ad4 Ad5 Ad6 Ad9 Ad10 Ad11 Ad12 : Addr}
theorem scLTakeCells : FnScope ["script", "digits", "number"] ["script"] (defScope sLTakeCells) := ⟨rfl, rfl, rfl, by decide +kernel, rfl, by decide +kernel, by decide +kernel⟩
theorem ok_LTakeCells (T : Txt P w K mg base Ad1 Ad2 Ad3 Ad4 Ad5 Ad6 Ad9 Ad10 Ad11 Ad12) : Cl P w K mg base 1 "_law_take_cells" (spPool K) [] := by
  refine cl_of T.d__law_take_cells scLTakeCells (fun vs H Q E h => ?_) fun f cdv A outer s H vs Q E hr h => ?_
  · obtain ⟨a, ns, rfl, _⟩ := h
    rfl
  · obtain ⟨a, ns, rfl, ha, hl, k⟩ := h
    refine ⟨_, (pss_cons (ps_setLc (i := 1) (own := [(("number" : Str), 2)]) (g := gName 2) (by rfl) scLTakeCells.nd rfl rfl (sw_true rfl rfl rfl (by decide +kernel)) (pi_list (pe_slice sl_list (pv 0) po_none (po_some pe_int))) (blkOk_by (own := [(("number" : Str), 2)]) (N := ["script", "digits", "number"]) (sc := defScope sLTakeCells) (by decide +kernel)) (fun _ _ _ _ _ => (pg_name (i := 2) scLTakeCells.nd rfl (by first | exact Or.inl rfl | exact Or.inr rfl))) (fun _ _ _ _ _ => pts_nil) (fun _ _ _ _ _ => (pe_op op_mod (pe_callTy call_intI (by rfl) T.b_int (by decide +kernel) (pa_cons (pv 2) pa_nil)) (pe_op op_pow pe_int pe_int))))
  (pss_one (ps_ret (pe_op op_cat (pe_lst (pa_cons (pe_op op_mod (pe_callTy call_intI (by rfl) T.b_int (by decide +kernel) (pa_cons (pe_callB (cr_sum rfl) (by rfl) T.b_sum (by decide +kernel) (pa_cons (pv 1) pa_nil)) pa_nil)) pe_int) pa_nil)) (pe_revL (pv 1)))))), ?_⟩
    obtain ⟨ms, ecut, hms, _⟩ := cut_map V.int ns none (some 63)
    refine ⟨_, rfl, _, rfl, a, _, rfl, ha, ?_⟩
    rw [ecut]
    intro p hp
    refine ⟨p, rfl, ⟨_, SqL.of upd_same⟩, fun D hD => lc_list (K := K) (a := p) (xs := ms.map V.int)
      (fun i H' => Same (upd H p (.lst (ms.map V.int))) H' ∧ ∃ acc : List Int, H' D = some (.lst (acc.map V.int)) ∧ acc.length = i)
      ⟨sm0 hD, [], upd_same, rfl⟩ (fun i H' _ h => h.1.seq (SqL.of upd_same)) (fun i x H' hx h => ?_) fun H' h => ?_⟩
    · obtain ⟨sh, acc, hacc, hlen⟩ := h
      obtain ⟨z, hz, rfl⟩ := ints_at hx
      have hi : i < ms.length := (List.getElem?_eq_some_iff.mp hz).1
      refine ⟨rfl, ?_⟩
      refine ⟨_, rfl, _, rfl, _, _, rfl, rfl, pow10 (by decide) (by decide), _, _, rfl, rfl, (by show (0 : Int) < 10 ^ 60; decide), _, hacc, by rw [List.length_map]; exact sz_lt (by omega), smM sh hD, acc ++ [z % 10 ^ 60], ?_, by simp [hlen]⟩
      rw [upd_same, List.map_append]
      rfl
    · obtain ⟨sh, acc, hacc, hlen⟩ := h
      rw [List.length_map] at hlen
      have s1 : Same H H' := (sm0 hp).trans sh
      refine ⟨_, rfl, D, acc, rfl, SqL.of hacc, _, rfl, _, _, rfl, rfl, (by show (0 : Int) < 1000003; decide), ?_⟩
      refine ⟨by show 1 ≤ sizeLine; decide, fun l1 hl1 => ?_⟩
      refine ⟨_, rfl, D, _, rfl, SqL.of (atN hacc hl1), fun l2 hl2 => ?_⟩
      refine ⟨l1, l2, _, _, rfl, rfl, atN upd_same hl2, upd_same, (by simp; exact sz_small (by omega)), fun q hq => ?_⟩
      refine k q _ (smN (smN (smN s1 hl1) hl2) hq) ((smN (smN s1 hl1) hl2).free hq) ⟨acc.sum % 1000003, acc.reverse, ?_, Int.emod_nonneg _ (by decide), ?_, by rw [List.length_reverse]; omega⟩
      · rw [upd_same, ← List.map_reverse]
        rfl
      · have := Int.emod_lt_of_pos acc.sum (show (0 : Int) < 1000003 by decide)
        omega
theorem scLParentRow : FnScope ["pool", "edges", "shape", "parents", "at", "digit"] ["pool", "edges"] (defScope sLParentRow) := ⟨rfl, rfl, rfl, by decide +kernel, rfl, by decide +kernel, by decide +kernel⟩
theorem ok_LParentRow (T : Txt P w K mg base Ad1 Ad2 Ad3 Ad4 Ad5 Ad6 Ad9 Ad10 Ad11 Ad12) : Cl P w K mg base 2 "_law_parent_row" spPRow [] := by
  have c_LDraw := ok_LDraw T
  refine cl_of T.d__law_parent_row scLParentRow (fun vs H Q E h => ?_) fun f cdv A outer s H vs Q E hr h => ?_
  · obtain ⟨p, n, b, rfl, _⟩ := h
    rfl
  · obtain ⟨p, n, b, rfl, hp, hb, n0, n1, k⟩ := h
    refine ⟨_, (pss_cons (ps_set (i := 2) scLParentRow.nd rfl (by first | exact Or.inl rfl | exact Or.inr rfl) (pe_c c_LDraw hr (by decide) rfl (pa_cons (pv 0) (pa_cons pe_int pa_nil))))
  (pss_cons (ps_set (i := 3) scLParentRow.nd rfl (by first | exact Or.inl rfl | exact Or.inr rfl) (pe_lst pa_nil))
  (pss_cons (ps_for (passes_of rfl) rfl (pi_range1 (by rfl) T.b_range (pa_cons (pv 1) pa_nil)) (pg_name (i := 4) scLParentRow.nd rfl (by first | exact Or.inl rfl | exact Or.inr rfl))
    (pss_cons (ps_set (i := 5) scLParentRow.nd rfl (by first | exact Or.inl rfl | exact Or.inr rfl) (pe_c c_LDraw hr (by decide) rfl (pa_cons (pv 0) (pa_cons (pe_op op_add (pv 4) pe_int) pa_nil))))
    (pss_one (ps_if (pt_cmpR op_eq (pv 2) pe_int (nomark _))
      (pss_one (ps_expr (pe_bm PySem.F.plainAttrs_list PySem.F.slot_list_append PySem.F.type_list_append mt_append (pv 3) (pa_cons (pv 5) pa_nil))))
      (pss_one (ps_if (pt_cmpR op_eq (pv 2) pe_int (nomark _))
        (pss_one (ps_expr (pe_bm PySem.F.plainAttrs_list PySem.F.slot_list_append PySem.F.type_list_append mt_append (pv 3) (pa_cons (pe_callB (call_max2 rfl) (by rfl) T.b_max (by decide +kernel) (pa_cons pe_int (pa_cons (pe_op op_sub (pv 4) (pe_op op_mod (pe_callTy call_intI (by rfl) T.b_int (by decide +kernel) (pa_cons (pv 5) pa_nil)) pe_int)) pa_nil))) pa_nil))))
        (pss_one (ps_expr (pe_bm PySem.F.plainAttrs_list PySem.F.slot_list_append PySem.F.type_list_append mt_append (pv 3) (pa_cons (pe_op op_mod (pe_callTy call_intI (by rfl) T.b_int (by decide +kernel) (pa_cons (pv 5) pa_nil)) (pe_callB (call_min2 rfl) (by rfl) T.b_min (by decide +kernel) (pa_cons pe_int (pa_cons (pe_op op_add (pv 4) pe_int) pa_nil)))) pa_nil))))))))))
  (pss_one (ps_ret (pv 3)))))), ?_⟩
    have hb6 : b ≤ 1000000 := hb
    have G : ∀ {c : Nat}, c ≤ b + 1000 → c ≤ 10 ^ 100 := fun h => big6 (by show _ ≤ 10000000; omega)
    have N : ∀ {n : Int}, n ≤ 1000 → n ≤ 10 ^ 130 := fun h => Int.le_trans h (by decide +kernel)
    refine ⟨_, rfl, draw_of hp (G (by omega)) (by decide) (N (by decide)) fun sh H1 b1 p1 s0 s1 => ?_⟩
    refine ⟨by show 0 ≤ sizeLine; decide, fun a ha => ?_⟩
    have na := p1.ne ha
    have fa := b1.free na ha
    have p2 := p1.new (o := .lst []) ha
    have bH2 : But p H (upd H1 a (.lst [])) := b1.trans (But.of (sm0 ha))
    refine ⟨_, rfl, _, rfl, by omega, by omega, ?_⟩
    refine for_range (lo := 0) (n := n.toNat) (fun i σ H' => ∃ (v4 v5 : Option V) (ps : List Int), σ = [some (.ref p), some (.int n), some (.int sh), some (.ref a), v4, v5] ∧ But p H H' ∧ PoolB H' p (b + 1 + i) ∧ H' a = some (.lst (ps.map V.int)) ∧ ps.length = i ∧ parOk ps)
      ⟨none, none, [], rfl, bH2, p2, upd_same, rfl, fun i p h => by simp at h⟩ (fun i σ H' hi h => ?_) fun σ H' h => ?_
    · obtain ⟨v4, v5, ps, rfl, bH, pH, hA, lp, hok⟩ := h
      rw [Int.zero_add]
      refine ⟨_, rfl, _, rfl, _, _, rfl, rfl, draw_of pH (G (by omega)) (by omega) (N (by omega)) fun d H3 b3 p3 d0 d1 => ?_⟩
      have hA3 := b3 a _ na hA
      have bH3 := bH.trans b3
      have fin : ∀ z : Int, 0 ≤ z → z ≤ i → ∃ (v4 v5 : Option V) (ps' : List Int), ([some (.ref p), some (.int n), some (.int sh), some (.ref a), some (.int (i : Nat)), some (.int d)] : L2.St) = [some (.ref p), some (.int n), some (.int sh), some (.ref a), v4, v5] ∧ But p H (upd H3 a (.lst (ps.map V.int ++ [.int z]))) ∧ PoolB (upd H3 a (.lst (ps.map V.int ++ [.int z]))) p (b + 1 + (i + 1)) ∧ upd H3 a (.lst (ps.map V.int ++ [.int z])) a = some (.lst (ps'.map V.int)) ∧ ps'.length = i + 1 ∧ parOk ps' := fun z z0 z1 =>
        ⟨_, _, ps ++ [z], rfl, fun x o nx e => by rw [upd_ne (ne_of_none e fa)]; exact bH3 x o nx e, (p3.put na).up (by omega), by rw [upd_same, List.map_append]; rfl, by simp [lp], par_hung hok z0 (by omega)⟩
      have hsz : (ps.map V.int).length < sizeLine := by rw [List.length_map]; exact sz_lt (by omega)
      refine ⟨_, rfl, rfl, _, rfl, ifI (fun c => ?_) fun c => ?_⟩
      · exact ⟨_, rfl, .inl ⟨rfl, _, SqL.of hA3⟩, _, rfl, a, _, _, rfl, rfl, hA3, hsz, fin d d0 (by omega)⟩
      refine ⟨_, rfl, rfl, _, rfl, ifI (fun c2 => ?_) fun c2 => ?_⟩
      · refine ⟨_, rfl, .inl ⟨rfl, _, SqL.of hA3⟩, _, rfl, _, rfl, _, rfl, _, _, rfl, rfl, (by show (0 : Int) < 3; decide), _, _, rfl, rfl, _, _, rfl, a, _, _, rfl, rfl, hA3, hsz, ?_⟩
        have h3 := Int.emod_nonneg d (show (3 : Int) ≠ 0 by decide)
        refine fin _ ?_ ?_ <;> (split <;> omega)
      · have hm : (0 : Int) < (if (i : Int) + 1 < 4 then (i : Int) + 1 else 4) := by split <;> omega
        refine ⟨_, rfl, .inl ⟨rfl, _, SqL.of hA3⟩, _, rfl, _, rfl, _, rfl, _, _, rfl, rfl, _, _, rfl, _, _, rfl, rfl, hm, a, _, _, rfl, rfl, hA3, hsz, ?_⟩
        have h3 := Int.emod_nonneg d (show (if (i : Int) + 1 < 4 then (i : Int) + 1 else 4) ≠ 0 by omega)
        have h4 := Int.emod_lt_of_pos d hm
        refine fin _ h3 ?_
        have : (if (i : Int) + 1 < 4 then (i : Int) + 1 else 4) ≤ (i : Int) + 1 := by split <;> omega
        omega
    · obtain ⟨v4, v5, ps, rfl, bH, pH, hA, lp, hok⟩ := h
      exact ⟨_, rfl, k a ps H' bH (pH.up (by omega)) fa hA (by omega) hok⟩
theorem scLPriceRow : FnScope ["pool", "edges", "wide", "at"] ["pool", "edges"] (defScope sLPriceRow) := ⟨rfl, rfl, rfl, by decide +kernel, rfl, by decide +kernel, by decide +kernel⟩
theorem ok_LPriceRow (T : Txt P w K mg base Ad1 Ad2 Ad3 Ad4 Ad5 Ad6 Ad9 Ad10 Ad11 Ad12) : Cl P w K mg base 2 "_law_price_row" spQRow [] := by
  have c_LDraw := ok_LDraw T
  refine cl_of T.d__law_price_row scLPriceRow (fun vs H Q E h => ?_) fun f cdv A outer s H vs Q E hr h => ?_
  · obtain ⟨p, n, b, rfl, _⟩ := h
    rfl
  · obtain ⟨p, n, b, rfl, hp, hb, n0, n1, k⟩ := h
    refine ⟨_, (pss_cons (ps_set (i := 2) scLPriceRow.nd rfl (by first | exact Or.inl rfl | exact Or.inr rfl) (pe_op op_add pe_int (pe_op op_mulW pe_int (pe_c c_LDraw hr (by decide) rfl (pa_cons (pv 0) (pa_cons pe_int pa_nil))))))
  (pss_one (ps_ret (pe_lc (own := [(("at" : Str), 3)]) (g := gName 3) (by rfl) scLPriceRow.nd (pi_range1 (by rfl) T.b_range (pa_cons (pv 1) pa_nil)) (blkOk_by (own := [(("at" : Str), 3)]) (N := ["pool", "edges", "wide", "at"]) (sc := defScope sLPriceRow) (by decide +kernel)) (fun _ _ _ _ _ => (pg_name (i := 3) scLPriceRow.nd rfl (by first | exact Or.inl rfl | exact Or.inr rfl))) (fun _ _ _ _ _ => pts_nil) (fun _ _ _ _ _ => (pe_op op_add pe_int (pe_c c_LDraw hr (by decide) rfl (pa_cons (pv 0) (pa_cons (pv 2) pa_nil))))))))), ?_⟩
    have hb6 : b ≤ 1000000 := hb
    have G : ∀ {c : Nat}, c ≤ b + 1000 → c ≤ 10 ^ 100 := fun h => big6 (by show _ ≤ 10000000; omega)
    have N : ∀ {n : Int}, n ≤ 1000 → n ≤ 10 ^ 130 := fun h => Int.le_trans h (by decide +kernel)
    refine ⟨_, rfl, draw_of hp (G (by omega)) (by decide) (N (by decide)) fun sh H1 b1 p1 s0 s1 => ?_⟩
    refine ⟨_, _, rfl, rfl, cmul_small (abs_small (by decide) (by decide)) (abs_small (by omega) (by omega)), _, _, rfl, rfl, ?_⟩
    refine ⟨_, rfl, _, rfl, by omega, by omega, fun D hD => ?_⟩
    have nD := p1.ne hD
    have fD := b1.free nD hD
    refine lc_range (lo := 0) (n := n.toNat) (fun i H' => But p H H' ∧ PoolB H' p (b + 1 + i) ∧ ∃ qs : List Int, H' D = some (.lst (qs.map V.int)) ∧ qs.length = i ∧ ∀ x ∈ qs, 2 ≤ x ∧ x ≤ 31)
      ⟨b1.trans (But.of (sm0 hD)), p1.new hD, [], upd_same, rfl, fun x hx => by cases hx⟩ (fun i H' hi z => ?_) fun H' z => ?_
    · obtain ⟨bH, pH, qs, hacc, lq, hq⟩ := z
      refine ⟨rfl, ?_⟩
      refine ⟨_, rfl, _, rfl, draw_of pH (G (by omega)) (by omega) (N (by omega)) fun d H3 b3 p3 d0 d1 => ?_⟩
      have hacc3 := b3 D _ nD hacc
      refine ⟨_, _, rfl, rfl, _, hacc3, by rw [List.length_map]; exact sz_lt (by omega), fun x o nx e => by rw [upd_ne (ne_of_none e fD)]; exact (bH.trans b3) x o nx e, (p3.put nD).up (by omega), qs ++ [2 + d], by rw [upd_same, List.map_append]; rfl, by simp [lq], fun x hx => ?_⟩
      rcases List.mem_append.mp hx with hx | hx
      · exact hq x hx
      · rw [List.mem_singleton] at hx
        subst hx
        omega
    · obtain ⟨bH, pH, qs, hacc, lq, hq⟩ := z
      exact k D qs H' bH (pH.up (by omega)) fD hacc (by omega) hq
theorem scLHeightRow : FnScope ["parents", "prices", "heights_v", "start", "node", "product", "turn"] ["parents", "prices"] (defScope sLHeightRow) := ⟨rfl, rfl, rfl, by decide +kernel, rfl, by decide +kernel, by decide +kernel⟩
theorem ok_LHeightRow (T : Txt P w K mg base Ad1 Ad2 Ad3 Ad4 Ad5 Ad6 Ad9 Ad10 Ad11 Ad12) : Cl P w K mg base 1 "_law_height_row" spHRow [] := by
  refine cl_of T.d__law_height_row scLHeightRow (fun vs H Q E h => ?_) fun f cdv A outer s H vs Q E hr h => ?_
  · obtain ⟨a, b, ps, qs, rfl, _⟩ := h
    rfl
  · obtain ⟨a, b, ps, qs, rfl, ha, hb, ok, k⟩ := h
    refine ⟨_, (pss_cons (ps_set (i := 2) scLHeightRow.nd rfl (by first | exact Or.inl rfl | exact Or.inr rfl) (pe_op op_rep (pe_lst (pa_cons pe_int pa_nil)) (pe_op op_add (pe_callB call_len_seq (by rfl) T.b_len (by decide +kernel) (pa_cons (pv 0) pa_nil)) pe_int)))
  (pss_cons (ps_for (passes_of rfl) rfl (pi_range2 (by rfl) T.b_range (pa_cons pe_int (pa_cons (pe_callB call_len_seq (by rfl) T.b_len (by decide +kernel) (pa_cons (pv 2) pa_nil)) pa_nil))) (pg_name (i := 3) scLHeightRow.nd rfl (by first | exact Or.inl rfl | exact Or.inr rfl))
    (pss_cons (ps_set (i := 4) scLHeightRow.nd rfl (by first | exact Or.inl rfl | exact Or.inr rfl) (pv 3))
    (pss_cons (ps_set (i := 5) scLHeightRow.nd rfl (by first | exact Or.inl rfl | exact Or.inr rfl) pe_int)
    (pss_one (ps_for (passes_of rfl) rfl (pi_range1 (by rfl) T.b_range (pa_cons (pe_callB call_len_seq (by rfl) T.b_len (by decide +kernel) (pa_cons (pv 0) pa_nil)) pa_nil)) (pg_name (i := 6) scLHeightRow.nd rfl (by first | exact Or.inl rfl | exact Or.inr rfl))
      (pss_cons (ps_if (pt_cmpR op_eq (pv 4) pe_int (nomark _))
        (pss_one ps_break)
        pss_nil)
      (pss_cons (ps_set (i := 5) scLHeightRow.nd rfl (by first | exact Or.inl rfl | exact Or.inr rfl) (pe_op op_mulW (pv 5) (pe_ix ix_list (pv 1) (pe_op op_sub (pv 4) pe_int) (fun _ _ => rfl))))
      (pss_cons (ps_set (i := 4) scLHeightRow.nd rfl (by first | exact Or.inl rfl | exact Or.inr rfl) (pe_ix ix_list (pv 0) (pe_op op_sub (pv 4) pe_int) (fun _ _ => rfl)))
      (pss_one (ps_asg (pe_callB (call_max2 rfl) (by rfl) T.b_max (by decide +kernel) (pa_cons (pe_ix ix_list (pv 2) (pv 4) (fun _ _ => rfl)) (pa_cons (pv 5) pa_nil))) (pg_sub (pv 2) (pv 4) set_list)))))))))))
  (pss_one (ps_ret (pv 2))))), ?_⟩
    have hl := ok.1
    have hl2 := ok.2.1
    refine ⟨by show 1 ≤ sizeLine; decide, fun z1 h1 => ?_⟩
    have s1 : Same H (upd H z1 (.lst [.int 1])) := sm0 h1
    refine ⟨_, rfl, a, _, rfl, .inl (SqL.of (s1 _ _ ha)), _, _, rfl, rfl, z1, _, _, rfl, rfl, upd_same, by simp; omega, by simp; omega, sz_small (by simp; omega), fun F hF => ?_⟩
    rw [show ((((ps.map V.int).length : Nat) : Int) + 1).toNat = ps.length + 1 by simp, rep_one]
    have s2 : Same H (upd (upd H z1 (.lst [.int 1])) F (.lst (List.replicate (ps.length + 1) (.int 1)))) := smN s1 hF
    have e0 : List.replicate (ps.length + 1) (V.int 1) = (List.replicate (ps.length + 1) (1 : Int)).map V.int := by rw [List.map_replicate]
    have hF2 : upd (upd H z1 (.lst [.int 1])) F (.lst (List.replicate (ps.length + 1) (.int 1))) F = some (.lst ((List.replicate (ps.length + 1) (1 : Int)).map V.int)) := by rw [upd_same, e0]
    have fF := s1.free hF
    generalize upd (upd H z1 (.lst [.int 1])) F (.lst (List.replicate (ps.length + 1) (.int 1))) = H2 at s2 hF2 ⊢
    have lF : ((((List.replicate (ps.length + 1) (1 : Int)).map V.int).length : Nat) : Int) = (ps.length : Int) + 1 := by simp
    refine ⟨_, rfl, F, _, rfl, .inl (SqL.of hF2), 1, _, rfl, ⟨by decide, by decide, by rw [lF]; omega, by rw [lF]; omega⟩, ?_⟩
    rw [lF, show ((ps.length : Int) + 1 - 1).toNat = ps.length by omega]
    refine for_range (lo := 1) (n := ps.length) (fun i σ H' => ∃ (v3 v4 v5 v6 : Option V) (f : List Int), σ = [some (.ref a), some (.ref b), some (.ref F), v3, v4, v5, v6] ∧ Same H H' ∧ H' F = some (.lst (f.map V.int)) ∧ Mx ps qs (fun low k => low < i + 1 ∧ k ≤ ps.length) f)
      ⟨none, none, none, none, _, rfl, s2, hF2, mx_more mx_ones (fun _ _ h => h.elim) fun low k h => .inr (.inl (by have e : low = 0 := (by omega); rw [e]; exact prd0 k))⟩ (fun i σ H' hi h => ?_) fun σ H' h => ?_
    · obtain ⟨v3, v4, v5, v6, f, rfl, sh, hf, hM⟩ := h
      rw [show (1 : Int) + (i : Nat) = ((i + 1 : Nat) : Int) by omega]
      refine ⟨_, rfl, ?_⟩
      refine ⟨_, rfl, a, _, rfl, .inl (SqL.of (sh _ _ ha)), _, rfl, by simp <;> omega, by simp <;> omega, ?_⟩
      rw [show ((((ps.map V.int).length : Nat) : Int)).toNat = ps.length by simp]
      have hil : i + 1 ≤ ps.length := hi
      refine for_range (lo := 0) (n := ps.length) (fun t σ H' => ∃ (v6 : Option V) (f : List Int), σ = [some (.ref a), some (.ref b), some (.ref F), some (.int ((i + 1 : Nat) : Int)), some (.int (anc ps (i + 1) t : Nat)), some (.int (prd ps qs (i + 1) t)), v6] ∧ Same H H' ∧ H' F = some (.lst (f.map V.int)) ∧ Mx ps qs (fun low k => (low < i + 1 ∧ k ≤ ps.length) ∨ (low = i + 1 ∧ k ≤ t)) f)
        ⟨v6, f, rfl, sh, hf, mx_more hM (fun _ _ h => .inl h) fun low k h => h.elim .inl fun h => .inr (.inl (by have e : k = 0 := (by omega); rw [e]; rfl))⟩ (fun t σ H' ht h => ?_) fun σ H' h => ?_
      · obtain ⟨v6, f, rfl, sh, hf, hM⟩ := h
        have hanc := (anc_le ok hil t).1
        refine ⟨_, rfl, rfl, _, rfl, ifI (fun c => ?_) fun c => ?_⟩
        · have c0 : anc ps (i + 1) t = 0 := by omega
          refine ⟨_, _, _, _, f, rfl, sh, hf, mx_more hM (fun low k h => by omega) fun low k h => ?_⟩
          by_cases c1 : low < i + 1
          · exact .inl (.inl ⟨c1, h.2⟩)
          · obtain rfl : low = i + 1 := by omega
            rcases Nat.lt_or_ge t k with c2 | c2
            · have := anc_stay (qs := qs) c0 (k - t)
              rw [show t + (k - t) = k by omega] at this
              exact .inr (.inr ⟨t, .inr ⟨rfl, Nat.le_refl _⟩, by rw [this.1, c0], this.2.symm⟩)
            · exact .inl (.inr ⟨rfl, c2⟩)
        · obtain ⟨p', q', e1, e2, h3, h4, h5, h6, h7⟩ := edge_of ok (v := anc ps (i + 1) t) (by omega) (by omega)
          have hpr := prd_le ok hil t
          have hpb : prd ps qs (i + 1) t ≤ 10 ^ 200 := by
            have e1 : (31 : Int) ^ (i + 1 - anc ps (i + 1) t) ≤ 31 ^ 60 := pow31_le (by omega)
            have e2 : (31 : Int) ^ 60 ≤ 10 ^ 200 := by decide +kernel
            omega
          have ea : anc ps (i + 1) (t + 1) = p' := h6
          have ep : prd ps qs (i + 1) (t + 1) = prd ps qs (i + 1) t * q' := by show prd ps qs (i + 1) t * pr1 qs (anc ps (i + 1) t) = _; rw [h7]
          obtain ⟨y, hy⟩ : ∃ y, f[p']? = some y := ⟨_, List.getElem?_eq_getElem (by rw [hM.len]; omega)⟩
          refine ⟨_, rfl, _, rfl, _, rfl, _, _, rfl, rfl, b, _, _, _, rfl, rfl, SqL.of (sh _ _ hb), at_of (j := anc ps (i + 1) t - 1) (by omega) (at_ints e2), _, _, rfl, rfl, cmul_small (abs_small (by omega) hpb) (abs_small (by omega) (by omega)), ?_⟩
          refine ⟨_, rfl, _, rfl, _, _, rfl, rfl, a, _, _, _, rfl, rfl, SqL.of (sh _ _ ha), at_of (j := anc ps (i + 1) t - 1) (by omega) (at_ints e1), ?_⟩
          refine ⟨_, rfl, _, rfl, F, _, _, _, rfl, rfl, SqL.of hf, atI_nat (at_ints hy), _, rfl, _, _, rfl, ?_⟩
          refine ⟨_, rfl, _, rfl, F, _, _, p', rfl, rfl, hf, ixN_of rfl (by rw [List.length_map, hM.len]; omega), ?_⟩
          have hM2 := mx_step (L := i + 1) (t := t + 1) (S' := fun low k => (low < i + 1 ∧ k ≤ ps.length) ∨ (low = i + 1 ∧ k ≤ t + 1)) hM (by rw [ea]; exact hy) fun low k => by omega
          rw [ea, ep] at hM2
          refine ⟨some (.int (0 + (t : Nat))), _, ?_, smM sh fF, by rw [upd_same, List.map_set], hM2⟩
          rw [ea, ep]
          rfl
      · obtain ⟨v6, f, rfl, sh, hf, hM⟩ := h
        exact ⟨_, _, _, _, f, rfl, sh, hf, mx_imp hM fun low k => by omega⟩
    · obtain ⟨v3, v4, v5, v6, f, rfl, sh, hf, hM⟩ := h
      exact ⟨_, rfl, k F H' f sh (mx_isH ok (mx_imp hM fun low k => by omega)) hf⟩
theorem scLLineOf : FnScope ["parents", "prices", "heights_v", "rest", "at"] ["parents", "prices"] (defScope sLLineOf) := ⟨rfl, rfl, rfl, by decide +kernel, rfl, by decide +kernel, by decide +kernel⟩
theorem ok_LLineOf (T : Txt P w K mg base Ad1 Ad2 Ad3 Ad4 Ad5 Ad6 Ad9 Ad10 Ad11 Ad12) : Cl P w K mg base 2 "_law_line_of" spLineOf [] := by
  have c_LHeightRow := ok_LHeightRow T
  refine cl_of T.d__law_line_of scLLineOf (fun vs H Q E h => ?_) fun f cdv A outer s H vs Q E hr h => ?_
  · obtain ⟨a, b, ps, qs, rfl, _⟩ := h
    rfl
  · obtain ⟨a, b, ps, qs, rfl, ha, hb, ok, k⟩ := h
    refine ⟨_, (pss_cons (ps_set (i := 2) scLLineOf.nd rfl (by first | exact Or.inl rfl | exact Or.inr rfl) (pe_c c_LHeightRow hr (by decide) rfl (pa_cons (pv 0) (pa_cons (pv 1) pa_nil))))
  (pss_cons (ps_set (i := 3) scLLineOf.nd rfl (by first | exact Or.inl rfl | exact Or.inr rfl) (pe_op op_sub pe_int (pe_ix ix_list (pv 2) pe_int (fun _ _ => rfl))))
  (pss_cons (ps_for (passes_of rfl) rfl (pi_range1 (by rfl) T.b_range (pa_cons (pe_callB call_len_seq (by rfl) T.b_len (by decide +kernel) (pa_cons (pv 1) pa_nil)) pa_nil)) (pg_name (i := 4) scLLineOf.nd rfl (by first | exact Or.inl rfl | exact Or.inr rfl))
    (pss_one (ps_set (i := 3) scLLineOf.nd rfl (by first | exact Or.inl rfl | exact Or.inr rfl) (pe_op op_add (pv 3) (pe_op op_mulW (pe_op op_sub (pe_ix ix_list (pv 1) (pv 4) (fun _ _ => rfl)) pe_int) (pe_ix ix_list (pv 2) (pe_op op_add (pv 4) pe_int) (fun _ _ => rfl)))))))
  (pss_one (ps_ret (pe_tup (pa_cons (pe_ix ix_list (pv 2) pe_int (fun _ _ => rfl)) (pa_cons (pv 3) pa_nil)))))))), ?_⟩
    have hl := ok.1
    have hl2 := ok.2.1
    refine ⟨_, rfl, _, rfl, a, b, ps, qs, rfl, ha, hb, ok, fun F H1 f s1 hI hF => ?_⟩
    obtain ⟨x, hx⟩ : ∃ x, f[0]? = some x := ⟨_, List.getElem?_eq_getElem (by rw [hI.len]; omega)⟩
    refine ⟨_, rfl, F, _, _, _, rfl, rfl, SqL.of hF, at_of (j := 0) rfl (at_ints hx), _, _, rfl, rfl, ?_⟩
    refine ⟨_, rfl, b, _, rfl, .inl (SqL.of (s1 _ _ hb)), _, rfl, by simp <;> omega, by simp <;> omega, ?_⟩
    rw [show ((((qs.map V.int).length : Nat) : Int)).toNat = ps.length by simp; omega]
    refine for_range (lo := 0) (n := ps.length) (fun i σ H' => ∃ v4 : Option V, σ = [some (.ref a), some (.ref b), some (.ref F), some (.int (1 - x + rst qs f i)), v4] ∧ H' = H1)
      ⟨none, by show _ = [some (V.ref a), some (V.ref b), some (V.ref F), some (V.int (1 - x + 0)), none]; rw [Int.add_zero]; rfl, rfl⟩ (fun i σ H' hi h => ?_) fun σ H' h => ?_
    · obtain ⟨v4, rfl, rfl⟩ := h
      rw [Int.zero_add]
      obtain ⟨q, hq⟩ : ∃ q, qs[i]? = some q := ⟨_, List.getElem?_eq_getElem (by omega)⟩
      obtain ⟨y, hy⟩ : ∃ y, f[i + 1]? = some y := ⟨_, List.getElem?_eq_getElem (by rw [hI.len]; omega)⟩
      have hqb := pw_ok ok (u := i + 1) (by omega) (by omega)
      rw [pw_of hq] at hqb
      have hyb := hI.bnd (i + 1)
      rw [ht_of hy] at hyb
      have hyb2 : y ≤ 10 ^ 200 := by
        have e1 : (31 : Int) ^ (ps.length + 1) ≤ 31 ^ 60 := pow31_le (by omega)
        have e2 : (31 : Int) ^ 60 ≤ 10 ^ 200 := by decide +kernel
        omega
      refine ⟨_, rfl, _, rfl, _, rfl, b, _, _, _, rfl, rfl, SqL.of (s1 _ _ hb), atI_nat (at_ints hq), _, _, rfl, rfl, _, rfl, _, rfl, _, _, rfl, rfl, F, _, _, _, rfl, rfl, SqL.of hF, at_of (j := i + 1) (by omega) (at_ints hy), _, _, rfl, rfl, cmul_small (abs_small (by omega) (by omega)) (abs_small (by omega) hyb2), _, _, rfl, rfl, ?_⟩
      refine ⟨some (.int (i : Nat)), ?_, rfl⟩
      have e : rst qs f (i + 1) = rst qs f i + (q - 1) * y := by
        show rst qs f i + (pw qs (i + 1) - 1) * ht f (i + 1) = _
        rw [pw_of hq, ht_of hy]
      rw [e, ← Int.add_assoc]
      rfl
    · obtain ⟨v4, rfl, rfl⟩ := h
      refine ⟨_, rfl, F, _, _, _, rfl, rfl, SqL.of hF, at_of (j := 0) rfl (at_ints hx), _, rfl, by show 2 ≤ sizeLine; decide, fun z hz => ?_⟩
      exact k x _ z _ (smN s1 hz) ⟨f, hI, (ht_of hx).symm, rfl⟩ upd_same
end
end K14
set_option maxRecDepth 100000
set_option maxHeartbeats 4000000
namespace K14
/-! pushing from the leaves, in plain lists -/
def par (ps : List Int) (i : Nat) : Nat := (ps.getD i 0).toNat
def stp (ps qs : List Int) (i : Nat) (h : List Int) : List Int := h.set (par ps i) (h.getD (par ps i) 0 + h.getD (i + 1) 0 / pw qs (i + 1))
def pushN (ps qs : List Int) : Nat → List Int → List Int
  | 0, h => h
  | i + 1, h => pushN ps qs i (stp ps qs i h)
/-- the weights of the first nodes -/
def wS (f h : List Int) : Nat → Int
  | 0 => ht f 0 * h.getD 0 0
  | i + 1 => wS f h i + ht f (i + 1) * h.getD (i + 1) 0
section
variable {ps qs f : List Int}
theorem getD_set {h : List Int} {p v : Nat} {x : Int} (hp : p < h.length) : (h.set p x).getD v 0 = if p = v then x else h.getD v 0 := by
  rw [List.getD_eq_getElem?_getD, List.getElem?_set]
  by_cases c : p = v
  · subst c
    rw [if_pos rfl, if_pos rfl, if_pos hp]; rfl
  · rw [if_neg c, if_neg c, List.getD_eq_getElem?_getD]
theorem wS_set {h : List Int} {p : Nat} {x : Int} (hp : p < h.length) : ∀ i, wS f (h.set p x) i = wS f h i + (if p ≤ i then ht f p * (x - h.getD p 0) else 0)
  | 0 => by
    show ht f 0 * (h.set p x).getD 0 0 = ht f 0 * h.getD 0 0 + _
    rw [getD_set hp]
    by_cases c : p = 0
    · subst c
      rw [if_pos rfl, if_pos (Nat.le_refl _), Int.mul_sub]
      omega
    · rw [if_neg c, if_neg (by omega), Int.add_zero]
  | i + 1 => by
    show wS f (h.set p x) i + ht f (i + 1) * (h.set p x).getD (i + 1) 0 = wS f h i + ht f (i + 1) * h.getD (i + 1) 0 + _
    rw [wS_set hp i, getD_set hp]
    by_cases c : p = i + 1
    · subst c
      rw [if_neg (by omega), if_pos rfl, if_pos (Nat.le_refl _), Int.mul_sub]
      omega
    · rw [if_neg c]
      by_cases c2 : p ≤ i
      · rw [if_pos c2, if_pos (by omega)]; omega
      · rw [if_neg c2, if_neg (by omega)]; omega
theorem par_of {i : Nat} {p : Nat} (h : ps[i]? = some (p : Int)) : par ps i = p := by
  unfold par
  rw [List.getD_eq_getElem?_getD, h]
  rfl
theorem par_lt (ok : okT ps qs) {i : Nat} (hi : i < ps.length) : ps[i]? = some ((par ps i : Nat) : Int) ∧ par ps i ≤ i := by
  obtain ⟨p, hp⟩ : ∃ p, ps[i]? = some p := ⟨_, List.getElem?_eq_getElem hi⟩
  have := ok.par i p hp
  obtain ⟨pn, rfl⟩ : ∃ pn : Nat, p = (pn : Int) := ⟨p.toNat, by omega⟩
  rw [par_of hp]
  exact ⟨hp, by omega⟩
theorem up_ht (ok : okT ps qs) (hI : IsH ps qs 0 f) {i : Nat} (hi : i < ps.length) : pw qs (i + 1) * ht f (i + 1) ≤ ht f (par ps i) := by
  obtain ⟨hp, hpi⟩ := par_lt ok hi
  obtain ⟨q, hq⟩ : ∃ q, qs[i]? = some q := ⟨_, List.getElem?_eq_getElem (by have := ok.2.1; omega)⟩
  obtain ⟨x, hx⟩ : ∃ x, f[i + 1]? = some x := ⟨_, List.getElem?_eq_getElem (by rw [hI.len]; omega)⟩
  obtain ⟨y, hy⟩ : ∃ y, f[par ps i]? = some y := ⟨_, List.getElem?_eq_getElem (by rw [hI.len]; omega)⟩
  rw [pw_of hq, ht_of hx, ht_of hy]
  exact hI.up i _ q x y (Nat.zero_le _) hp hq hx (by rw [Int.toNat_natCast]; exact hy)
theorem stp_len {i : Nat} {h : List Int} : (stp ps qs i h).length = h.length := by unfold stp; rw [List.length_set]
theorem pushN_len : ∀ i (h : List Int), (pushN ps qs i h).length = h.length
  | 0, _ => rfl
  | i + 1, h => by
    show (pushN ps qs i (stp ps qs i h)).length = _
    rw [pushN_len i, stp_len]
def Nn (h : List Int) : Prop := ∀ v, 0 ≤ h.getD v 0
theorem stp_nn (ok : okT ps qs) {i : Nat} (hi : i < ps.length) {h : List Int} (hl : h.length = ps.length + 1) (n : Nn h) : Nn (stp ps qs i h) := fun v => by
  have hp := (par_lt ok hi).2
  unfold stp
  rw [getD_set (by omega)]
  split
  · have := pw_ok ok (u := i + 1) (by omega) (by omega)
    have h1 := n (par ps i)
    have h2 := Int.ediv_nonneg (n (i + 1)) (show 0 ≤ pw qs (i + 1) by omega)
    omega
  · exact n v
theorem wS_stp (ok : okT ps qs) (hI : IsH ps qs 0 f) {i : Nat} (hi : i < ps.length) {h : List Int} (hl : h.length = ps.length + 1) :
    wS f (stp ps qs i h) i = wS f h i + ht f (par ps i) * (h.getD (i + 1) 0 / pw qs (i + 1)) := by
  have hp := (par_lt ok hi).2
  unfold stp
  rw [wS_set (by omega), if_pos hp]
  congr 2
  omega
theorem step_le (ok : okT ps qs) (hI : IsH ps qs 0 f) {i : Nat} (hi : i < ps.length) {h : List Int} (hl : h.length = ps.length + 1) (n : Nn h) : wS f h (i + 1) ≤ wS f (stp ps qs i h) i + gn qs f (i + 1) := by
  rw [wS_stp ok hI hi hl]
  show wS f h i + ht f (i + 1) * h.getD (i + 1) 0 ≤ _
  have hq := pw_ok ok (u := i + 1) (by omega) (by omega)
  have hf := hI.bnd (i + 1)
  have hu := up_ht ok hI hi
  have hx := n (i + 1)
  generalize h.getD (i + 1) 0 = x at hx ⊢
  unfold gn
  generalize pw qs (i + 1) = q at hq hu ⊢
  generalize ht f (i + 1) = a at hf hu ⊢
  generalize ht f (par ps i) = b at hu ⊢
  have e := Int.mul_ediv_add_emod x q
  have r1 := Int.emod_lt_of_pos x (show 0 < q by omega)
  have u0 := Int.ediv_nonneg hx (show 0 ≤ q by omega)
  generalize x / q = u at e u0 ⊢
  generalize x % q = r at e r1
  have m1 : q * a * u ≤ b * u := Int.mul_le_mul_of_nonneg_right hu u0
  have m2 : a * r ≤ a * (q - 1) := Int.mul_le_mul_of_nonneg_left (by omega) (by omega)
  have e2 : a * x = q * a * u + a * r := by rw [← e, Int.mul_add, ← Int.mul_assoc, Int.mul_comm a q]
  rw [Int.mul_comm (q - 1) a]
  omega
theorem push_le (ok : okT ps qs) (hI : IsH ps qs 0 f) : ∀ i (h : List Int), i ≤ ps.length → h.length = ps.length + 1 → Nn h → wS f h i ≤ ht f 0 * (pushN ps qs i h).getD 0 0 + rst qs f i
  | 0, h, _, _, _ => by show ht f 0 * h.getD 0 0 ≤ ht f 0 * h.getD 0 0 + 0; omega
  | i + 1, h, hi, hl, n => by
    have h1 := step_le ok hI (show i < ps.length by omega) hl n
    have h2 := push_le ok hI i (stp ps qs i h) (by omega) (by rw [stp_len, hl]) (stp_nn ok (by omega) hl n)
    show _ ≤ ht f 0 * (pushN ps qs i (stp ps qs i h)).getD 0 0 + (rst qs f i + gn qs f (i + 1))
    omega
theorem sum_wS (hI : IsH ps qs 0 f) (h : List Int) (n : Nn h) : ∀ i, i < h.length → (h.take (i + 1)).sum ≤ wS f h i
  | 0, hi => by
    have e : (h.take 1).sum = h.getD 0 0 := by
      obtain ⟨x, hx⟩ : ∃ x, h[0]? = some x := ⟨_, List.getElem?_eq_getElem hi⟩
      rw [List.take_succ, hx, List.getD_eq_getElem?_getD, hx]
      simp
    rw [e]
    show _ ≤ ht f 0 * h.getD 0 0
    have m := Int.mul_le_mul_of_nonneg_right (hI.bnd 0).1 (n 0)
    omega
  | i + 1, hi => by
    have ih := sum_wS hI h n i (by omega)
    obtain ⟨x, hx⟩ : ∃ x, h[i + 1]? = some x := ⟨_, List.getElem?_eq_getElem hi⟩
    have ex : h.getD (i + 1) 0 = x := by rw [List.getD_eq_getElem?_getD, hx]; rfl
    rw [List.take_succ, hx, Option.toList_some, List.sum_append]
    show _ + (x + 0) ≤ wS f h i + ht f (i + 1) * h.getD (i + 1) 0
    have m := Int.mul_le_mul_of_nonneg_right (hI.bnd (i + 1)).1 (n (i + 1))
    rw [ex] at m ⊢
    omega
/-- enough pebbles bring many -/
theorem brings {a b m : Int} (ok : okT ps qs) (hL : LineIs ps qs a b) {h : List Int} (hl : h.length = ps.length + 1) (n : Nn h) (hs : a * m + b ≤ h.sum) : m ≤ (pushN ps qs ps.length h).getD 0 0 := by
  obtain ⟨f, hI, ha, hb⟩ := hL
  have h1 := push_le ok hI ps.length h (Nat.le_refl _) hl n
  have h2 := sum_wS hI h n ps.length (by omega)
  rw [← hl, List.take_length] at h2
  rw [← ha] at h1
  have ha1 := (hI.bnd 0).1
  rw [← ha] at ha1
  generalize (pushN ps qs ps.length h).getD 0 0 = r at h1 ⊢
  rcases Int.lt_or_le r m with c | c
  · have m1 : a * r ≤ a * (m - 1) := Int.mul_le_mul_of_nonneg_left (by omega) (by omega)
    rw [Int.mul_sub] at m1
    omega
  · exact c
/-- one pebble more at one node -/
def One (i : Nat) (h h' : List Int) : Prop := (∀ u, u ≤ i → h'.getD u 0 = h.getD u 0) ∨ ∃ v, v ≤ i ∧ ∀ u, u ≤ i → h'.getD u 0 = h.getD u 0 + (if u = v then 1 else 0)
theorem one_step (ok : okT ps qs) {i : Nat} (hi : i < ps.length) {h h' : List Int} (hl : h.length = ps.length + 1) (hl' : h'.length = ps.length + 1) (o : One (i + 1) h h') : One i (stp ps qs i h) (stp ps qs i h') := by
  have hp := (par_lt ok hi).2
  have hq := pw_ok ok (u := i + 1) (by omega) (by omega)
  have g : ∀ u, (stp ps qs i h).getD u 0 = if par ps i = u then h.getD (par ps i) 0 + h.getD (i + 1) 0 / pw qs (i + 1) else h.getD u 0 := fun u => by unfold stp; rw [getD_set (by omega)]
  have g' : ∀ u, (stp ps qs i h').getD u 0 = if par ps i = u then h'.getD (par ps i) 0 + h'.getD (i + 1) 0 / pw qs (i + 1) else h'.getD u 0 := fun u => by unfold stp; rw [getD_set (by omega)]
  rcases o with o | ⟨v, hv, o⟩
  · refine .inl fun u hu => ?_
    rw [g, g', o (par ps i) (by omega), o (i + 1) (Nat.le_refl _), o u (by omega)]
  · by_cases c : v = i + 1
    · subst c
      have e1 : h'.getD (i + 1) 0 = h.getD (i + 1) 0 + 1 := by rw [o (i + 1) (Nat.le_refl _), if_pos rfl]
      have eo : ∀ u, u ≤ i → h'.getD u 0 = h.getD u 0 := fun u hu => by rw [o u (by omega), if_neg (by omega)]; omega
      have d : (h.getD (i + 1) 0 + 1) / pw qs (i + 1) = h.getD (i + 1) 0 / pw qs (i + 1) ∨ (h.getD (i + 1) 0 + 1) / pw qs (i + 1) = h.getD (i + 1) 0 / pw qs (i + 1) + 1 := by
        generalize h.getD (i + 1) 0 = x
        generalize pw qs (i + 1) = q at hq
        have e1 := Int.mul_ediv_add_emod x q
        have r0 := Int.emod_nonneg x (show q ≠ 0 by omega)
        have r1 := Int.emod_lt_of_pos x (show 0 < q by omega)
        by_cases c : x % q = q - 1
        · right
          have : x + 1 = q * (x / q + 1) := by rw [Int.mul_add]; omega
          rw [this, Int.mul_ediv_cancel_left _ (by omega)]
        · left
          have : x + 1 = (x % q + 1) + q * (x / q) := by omega
          rw [this, Int.add_mul_ediv_left _ _ (by omega), Int.ediv_eq_zero_of_lt (by omega) (by omega)]
          omega
      rcases d with d | d
      · refine .inl fun u hu => ?_
        rw [g, g', e1, d, eo _ hp, eo u hu]
      · refine .inr ⟨par ps i, hp, fun u hu => ?_⟩
        rw [g, g', e1, d, eo _ hp, eo u hu]
        by_cases c2 : par ps i = u
        · rw [if_pos c2, if_pos c2, if_pos c2.symm]; omega
        · rw [if_neg c2, if_neg c2, if_neg (Ne.symm c2)]; omega
    · refine .inr ⟨v, by omega, fun u hu => ?_⟩
      have e1 : h'.getD (i + 1) 0 = h.getD (i + 1) 0 := by rw [o (i + 1) (Nat.le_refl _), if_neg (by omega)]; omega
      rw [g, g', e1, o (par ps i) (by omega), o u (by omega)]
      by_cases c2 : par ps i = u
      · rw [if_pos c2, if_pos c2, c2]; omega
      · rw [if_neg c2, if_neg c2]
theorem one_push (ok : okT ps qs) : ∀ i (h h' : List Int), i ≤ ps.length → h.length = ps.length + 1 → h'.length = ps.length + 1 → One i h h' → (pushN ps qs i h').getD 0 0 ≤ (pushN ps qs i h).getD 0 0 + 1
  | 0, h, h', _, _, _, o => by
    show h'.getD 0 0 ≤ h.getD 0 0 + 1
    rcases o with o | ⟨v, hv, o⟩
    · rw [o 0 (Nat.le_refl _)]; omega
    · rw [o 0 (Nat.le_refl _)]; split <;> omega
  | i + 1, h, h', hi, hl, hl', o => one_push ok i _ _ (by omega) (by rw [stp_len, hl]) (by rw [stp_len, hl']) (one_step ok (by omega) hl hl' o)
/-! the worst placing -/
def mn (ps qs f : List Int) (v : Nat) : Option Nat := mainOf ps qs f v ps.length
def valF (ps qs f : List Int) (m : Int) : Nat → Nat → Int
  | 0, _ => m - 1
  | k + 1, v => if v = 0 then m - 1 else if mn ps qs f (par ps (v - 1)) = some v then (valF ps qs f m k (par ps (v - 1)) + 1) * pw qs v - 1 else pw qs v - 1
theorem valF_fuel (ok : okT ps qs) (m : Int) (v : Nat) : ∀ k k', v ≤ k → v ≤ k' → v ≤ ps.length → valF ps qs f m k v = valF ps qs f m k' v := by
  induction v using Nat.strongRecOn with
  | ind v ih =>
    intro k k' h h' hv
    by_cases c : v = 0
    · subst c
      cases k <;> cases k' <;> rfl
    · obtain ⟨k, rfl⟩ : ∃ j, k = j + 1 := ⟨k - 1, by omega⟩
      obtain ⟨k', rfl⟩ : ∃ j, k' = j + 1 := ⟨k' - 1, by omega⟩
      have hp := (par_lt ok (i := v - 1) (by omega)).2
      show (if v = 0 then _ else if _ then (valF ps qs f m k (par ps (v - 1)) + 1) * _ - 1 else _) = (if v = 0 then _ else if _ then (valF ps qs f m k' (par ps (v - 1)) + 1) * _ - 1 else _)
      rw [ih (par ps (v - 1)) (by omega) k k' (by omega) (by omega) (by omega)]
def val (ps qs f : List Int) (m : Int) (v : Nat) : Int := valF ps qs f m v v
theorem val_zero (m : Int) : val ps qs f m 0 = m - 1 := rfl
theorem val_succ (ok : okT ps qs) (m : Int) {i : Nat} (hi : i < ps.length) : val ps qs f m (i + 1) = if mn ps qs f (par ps i) = some (i + 1) then (val ps qs f m (par ps i) + 1) * pw qs (i + 1) - 1 else pw qs (i + 1) - 1 := by
  have hp := (par_lt ok hi).2
  unfold val
  show (if i + 1 = 0 then m - 1 else if mn ps qs f (par ps (i + 1 - 1)) = some (i + 1) then (valF ps qs f m i (par ps (i + 1 - 1)) + 1) * pw qs (i + 1) - 1 else pw qs (i + 1) - 1) = _
  rw [if_neg (by omega), Nat.add_sub_cancel, valF_fuel ok m (par ps i) i (par ps i) hp (Nat.le_refl _) (by omega)]
theorem val_nn (ok : okT ps qs) {m : Int} (hm : 1 ≤ m) (v : Nat) : v ≤ ps.length → 0 ≤ val ps qs f m v := by
  induction v using Nat.strongRecOn with
  | ind v ih =>
    intro hv
    cases v with
    | zero => rw [val_zero]; omega
    | succ i =>
      have hp := (par_lt ok (i := i) (by omega)).2
      have hq := pw_ok ok (u := i + 1) (by omega) (by omega)
      rw [val_succ ok m (by omega)]
      split
      · have h1 := ih (par ps i) (by omega) (by omega)
        have m1 : (1 : Int) * 1 ≤ (val ps qs f m (par ps i) + 1) * pw qs (i + 1) := Int.mul_le_mul (by omega) (by omega) (by decide) (by omega)
        omega
      · omega
/-- what lies where when the nodes above i are pushed -/
def late (ps qs f : List Int) (i v : Nat) : Bool := match mn ps qs f v with
  | none => true
  | some c => decide (i < c)
def Held (ps qs f : List Int) (m : Int) (i : Nat) (h : List Int) : Prop := ∀ v, v ≤ i → h.getD v 0 = if late ps qs f i v = true then val ps qs f m v else 0
theorem okT.parX (ok : okT ps qs) : ∀ (i : Nat) (p : Int), ps[i]? = some p → 0 ≤ p ∧ p ≤ i := ok.par
theorem mn_up (ok : okT ps qs) {v c : Nat} (h : mn ps qs f v = some c) : v < c ∧ c ≤ ps.length ∧ par ps (c - 1) = v := by
  have h1 := mainOf_up ok.parX v _ c h
  have h2 := mainOf_par v _ c h
  exact ⟨h1.1, h1.2, par_of h2⟩
theorem held_step (ok : okT ps qs) (hI : IsH ps qs 0 f) {m : Int} {i : Nat} (hi : i < ps.length) {h : List Int} (hl : h.length = ps.length + 1) (hh : Held ps qs f m (i + 1) h) :
    Held ps qs f m i (stp ps qs i h) ∧ wS f h (i + 1) = wS f (stp ps qs i h) i + gn qs f (i + 1) := by
  have hp := (par_lt ok hi).2
  have hq := pw_ok ok (u := i + 1) (by omega) (by omega)
  have ex : h.getD (i + 1) 0 = val ps qs f m (i + 1) := by
    rw [hh (i + 1) (Nat.le_refl _), if_pos]
    unfold late
    cases e : mn ps qs f (i + 1) with
    | none => rfl
    | some c => exact decide_eq_true (mn_up ok e).1
  have g : ∀ u, (stp ps qs i h).getD u 0 = if par ps i = u then h.getD (par ps i) 0 + h.getD (i + 1) 0 / pw qs (i + 1) else h.getD u 0 := fun u => by unfold stp; rw [getD_set (by omega)]
  have other : ∀ v, v ≤ i → mn ps qs f v ≠ some (i + 1) → late ps qs f i v = late ps qs f (i + 1) v := fun v hv hn => by
    unfold late
    cases e : mn ps qs f v with
    | none => rfl
    | some c =>
      show decide (i < c) = decide (i + 1 < c)
      have : c ≠ i + 1 := fun z => hn (by rw [e, z])
      by_cases c1 : i < c
      · rw [decide_eq_true c1, decide_eq_true (by omega)]
      · rw [decide_eq_false c1, decide_eq_false (by omega)]
  have notp : ∀ v, v ≠ par ps i → mn ps qs f v ≠ some (i + 1) := fun v hv z => hv (by have := (mn_up ok z).2.2; rw [Nat.add_sub_cancel] at this; exact this.symm)
  by_cases c : mn ps qs f (par ps i) = some (i + 1)
  · have ev := val_succ (f := f) ok m hi
    rw [if_pos c] at ev
    have hu : val ps qs f m (i + 1) / pw qs (i + 1) = val ps qs f m (par ps i) := by
      rw [ev]
      generalize val ps qs f m (par ps i) = x
      generalize pw qs (i + 1) = q at hq
      have : (x + 1) * q - 1 = (q - 1) + q * x := by rw [Int.add_mul, Int.mul_comm x q]; omega
      rw [this, Int.add_mul_ediv_left _ _ (by omega), Int.ediv_eq_zero_of_lt (by omega) (by omega)]
      omega
    have h0 : h.getD (par ps i) 0 = 0 := by
      rw [hh (par ps i) (by omega), if_neg]
      unfold late
      rw [c]
      simp
    refine ⟨fun v hv => ?_, ?_⟩
    · rw [g]
      by_cases cv : par ps i = v
      · subst cv
        rw [if_pos rfl, h0, ex, hu, if_pos]
        · omega
        · unfold late
          rw [c]
          exact decide_eq_true (Nat.lt_succ_self _)
      · rw [if_neg cv, hh v (by omega), other v hv (notp v (Ne.symm cv))]
    · rw [wS_stp ok hI hi hl, ex, hu]
      show wS f h i + ht f (i + 1) * h.getD (i + 1) 0 = _
      rw [ex, ev]
      have er := main_rest _ _ c (by rw [hI.len]; omega) (by have := ok.2.1; omega) (by rw [hI.len]; omega)
      unfold gn
      rw [← er]
      generalize val ps qs f m (par ps i) = x
      generalize pw qs (i + 1) = q at hq
      generalize ht f (i + 1) = a
      have e1 : a * ((x + 1) * q - 1) = q * a * x + q * a - a := by rw [Int.mul_sub, Int.add_mul, Int.mul_add, Int.one_mul, Int.mul_one, Int.mul_comm a (x * q), Int.mul_assoc x q a, Int.mul_comm x (q * a), Int.mul_comm a q]
      rw [e1, Int.sub_mul]
      omega
  · have ev := val_succ (f := f) ok m hi
    rw [if_neg c] at ev
    have hu : val ps qs f m (i + 1) / pw qs (i + 1) = 0 := by rw [ev]; exact Int.ediv_eq_zero_of_lt (by omega) (by omega)
    refine ⟨fun v hv => ?_, ?_⟩
    · rw [g, ex, hu]
      by_cases cv : par ps i = v
      · subst cv
        rw [if_pos rfl, hh _ (by omega), other _ hv c]
        omega
      · rw [if_neg cv, hh v (by omega), other v hv (notp v (Ne.symm cv))]
    · rw [wS_stp ok hI hi hl, ex, hu]
      show wS f h i + ht f (i + 1) * h.getD (i + 1) 0 = _
      rw [ex, ev]
      unfold gn
      rw [Int.mul_zero, Int.add_zero, Int.mul_comm]
theorem held_push (ok : okT ps qs) (hI : IsH ps qs 0 f) {m : Int} : ∀ i (h : List Int), i ≤ ps.length → h.length = ps.length + 1 → Held ps qs f m i h → (pushN ps qs i h).getD 0 0 = m - 1 ∧ wS f h i = ht f 0 * (m - 1) + rst qs f i
  | 0, h, _, _, hh => by
    have e : h.getD 0 0 = m - 1 := by
      rw [hh 0 (Nat.le_refl _), if_pos, val_zero]
      unfold late
      cases e : mn ps qs f 0 with
      | none => rfl
      | some c => exact decide_eq_true (mn_up ok e).1
    refine ⟨e, ?_⟩
    show ht f 0 * h.getD 0 0 = ht f 0 * (m - 1) + 0
    rw [e, Int.add_zero]
  | i + 1, h, hi, hl, hh => by
    obtain ⟨h1, h2⟩ := held_step ok hI (by omega) hl hh
    obtain ⟨h3, h4⟩ := held_push ok hI i (stp ps qs i h) (by omega) (by rw [stp_len, hl]) h1
    refine ⟨h3, ?_⟩
    show _ = ht f 0 * (m - 1) + (rst qs f i + gn qs f (i + 1))
    rw [h2, h4]
    omega
def worst (ps qs f : List Int) (m : Int) : List Int := (List.range (ps.length + 1)).map fun v => if mn ps qs f v = none then val ps qs f m v else 0
theorem worst_len (m : Int) : (worst ps qs f m).length = ps.length + 1 := by unfold worst; simp
theorem worst_at (m : Int) {v : Nat} (h : v ≤ ps.length) : (worst ps qs f m).getD v 0 = if mn ps qs f v = none then val ps qs f m v else 0 := by
  unfold worst
  rw [List.getD_eq_getElem?_getD, List.getElem?_map, List.getElem?_range (by omega)]
  rfl
theorem worst_held (ok : okT ps qs) (m : Int) : Held ps qs f m ps.length (worst ps qs f m) := fun v hv => by
  rw [worst_at m hv]
  unfold late
  cases e : mn ps qs f v with
  | none => rfl
  | some c =>
    have := (mn_up ok e).2.1
    show (if some c = none then _ else _) = if decide (ps.length < c) = true then _ else _
    rw [if_neg (by intro z; cases z), if_neg (by simp; omega)]
theorem worst_nn (ok : okT ps qs) {m : Int} (hm : 1 ≤ m) : Nn (worst ps qs f m) := fun v => by
  rcases Nat.lt_or_ge ps.length v with c | c
  · rw [List.getD_eq_getElem?_getD, List.getElem?_eq_none (by rw [worst_len]; omega)]
    exact Int.le_refl _
  · rw [worst_at m c]
    split
    · exact val_nn ok hm v c
    · exact Int.le_refl _
theorem worst_wS (ok : okT ps qs) (hI : IsH ps qs 0 f) (m : Int) : ∀ i, i ≤ ps.length → wS f (worst ps qs f m) i = ((worst ps qs f m).take (i + 1)).sum
  | 0, _ => by
    have e : ((worst ps qs f m).take 1).sum = (worst ps qs f m).getD 0 0 := by
      obtain ⟨x, hx⟩ : ∃ x, (worst ps qs f m)[0]? = some x := ⟨_, List.getElem?_eq_getElem (by rw [worst_len]; omega)⟩
      rw [List.take_succ, hx, List.getD_eq_getElem?_getD, hx]
      simp
    rw [e]
    show ht f 0 * (worst ps qs f m).getD 0 0 = _
    rw [worst_at m (Nat.zero_le _)]
    split
    · rename_i h
      rw [leaf_one ok hI (by omega) h, Int.one_mul]
    · rw [Int.mul_zero]
  | i + 1, hi => by
    obtain ⟨x, hx⟩ : ∃ x, (worst ps qs f m)[i + 1]? = some x := ⟨_, List.getElem?_eq_getElem (by rw [worst_len]; omega)⟩
    have ex : (worst ps qs f m).getD (i + 1) 0 = x := by rw [List.getD_eq_getElem?_getD, hx]; rfl
    rw [List.take_succ, hx, Option.toList_some, List.sum_append]
    show wS f (worst ps qs f m) i + ht f (i + 1) * (worst ps qs f m).getD (i + 1) 0 = _ + (x + 0)
    rw [worst_wS ok hI m i (by omega), ex]
    have ew := worst_at (ps := ps) (qs := qs) (f := f) m hi
    rw [ex] at ew
    split at ew
    · rename_i h
      rw [leaf_one ok hI (by omega) h, Int.one_mul, Int.add_zero]
    · rw [ew, Int.mul_zero]; omega
theorem worst_sum {a b : Int} (ok : okT ps qs) (hL : LineIs ps qs a b) (hI : IsH ps qs 0 f) (m : Int) : (worst ps qs f m).sum = a * m + b - 1 := by
  obtain ⟨g, hI2, ha, hb⟩ := hL
  obtain rfl := isH_uniq ok.2.1 ok.2.2 hI hI2
  have h1 := (held_push ok hI ps.length (worst ps qs f m) (Nat.le_refl _) (worst_len m) (worst_held ok m)).2
  rw [worst_wS ok hI m ps.length (Nat.le_refl _), List.take_of_length_le (by rw [worst_len]; omega), ← ha] at h1
  rw [h1, hb, Int.mul_sub]
  omega
theorem worst_brings (ok : okT ps qs) (hI : IsH ps qs 0 f) (m : Int) : (pushN ps qs ps.length (worst ps qs f m)).getD 0 0 = m - 1 := (held_push ok hI ps.length _ (Nat.le_refl _) (worst_len m) (worst_held ok m)).1
/-! the leaves of the paths -/
theorem down_last (ok : okT ps qs) (hI : IsH ps qs 0 f) (m : Int) : ∀ (k v : Nat), v < ps.length + 1 → ps.length + 1 - v ≤ k →
    ∃ ini l, down (mainL ps qs f) k v = ini ++ [l] ∧ l ≤ ps.length ∧ mn ps qs f l = none ∧ (∀ u ∈ ini, mn ps qs f u ≠ none) ∧ val ps qs f m l + 1 = (val ps qs f m v + 1) * ht f v
  | 0, v, h1, h2 => by omega
  | k + 1, v, h1, h2 => by
    have ed : down (mainL ps qs f) (k + 1) v = v :: (match (mainL ps qs f)[v]? with | some (some c) => down (mainL ps qs f) k c | _ => []) := rfl
    rw [mainL_at h1] at ed
    cases e : mainOf ps qs f v ps.length with
    | none =>
      rw [e] at ed
      have ed' : down (mainL ps qs f) (k + 1) v = [v] := ed
      exact ⟨[], v, ed', by omega, e, fun u hu => (by cases hu), by rw [leaf_one ok hI h1 e, Int.mul_one]⟩
    | some c =>
      rw [e] at ed
      have ed' : down (mainL ps qs f) (k + 1) v = v :: down (mainL ps qs f) k c := ed
      have hc := mn_up ok (f := f) (show mn ps qs f v = some c from e)
      obtain ⟨ini, l, h3, h4, h5, h6, h7⟩ := down_last ok hI m k c (by omega) (by omega)
      refine ⟨v :: ini, l, by rw [ed', h3]; rfl, h4, h5, fun u hu => ?_, ?_⟩
      · rcases List.mem_cons.mp hu with rfl | hu
        · intro z
          have : mn ps qs f u = some c := e
          rw [this] at z
          cases z
        · exact h6 u hu
      · obtain ⟨j, rfl⟩ : ∃ j, c = j + 1 := ⟨c - 1, by omega⟩
        have er := main_rest _ _ e (by rw [hI.len]; exact h1) (by have := ok.2.1; omega) (by rw [hI.len]; omega)
        have ep : par ps j = v := by have := hc.2.2; rw [Nat.add_sub_cancel] at this; exact this
        have ev := val_succ (f := f) ok m (i := j) (by omega)
        rw [ep, if_pos (show mn ps qs f v = some (j + 1) from e)] at ev
        rw [h7, ev, ← er, ← Int.mul_assoc]
        congr 1
        omega
/-- the counts when the paths ls are done -/
def wT (ps qs f : List Int) (m : Int) (ls : List (List Nat)) : List Int := (List.range (ps.length + 1)).map fun v => if mn ps qs f v = none ∧ v ∈ tails ls then val ps qs f m v else 0
theorem wT_nil (m : Int) : wT ps qs f m [] = List.replicate (ps.length + 1) 0 := by
  unfold wT
  rw [show (fun v => if mn ps qs f v = none ∧ v ∈ tails [] then val ps qs f m v else 0) = fun _ => (0 : Int) from funext fun v => if_neg fun z => absurd z.2 (by simp [tails])]
  simp [List.map_const']
theorem wT_snoc (ok : okT ps qs) (hI : IsH ps qs 0 f) (m : Int) (ls : List (List Nat)) {p s : Nat} (hs : 1 ≤ s) (hs2 : s ≤ ps.length) : ∃ ini l, down (mainL ps qs f) (ps.length + 1 - s) s = ini ++ [l] ∧ l ≤ ps.length ∧
    wT ps qs f m (ls ++ [p :: down (mainL ps qs f) (ps.length + 1 - s) s]) = (wT ps qs f m ls).set l ((val ps qs f m s + 1) * ht f s - 1) := by
  obtain ⟨ini, l, h1, h2, h3, h4, h5⟩ := down_last ok hI m (ps.length + 1 - s) s (by omega) (Nat.le_refl _)
  refine ⟨ini, l, h1, h2, ?_⟩
  apply List.ext_getElem?
  intro v
  rw [List.getElem?_set]
  have lw : ∀ ls, (wT ps qs f m ls).length = ps.length + 1 := fun ls => by unfold wT; simp
  rcases Nat.lt_or_ge ps.length v with c | c
  · rw [List.getElem?_eq_none (by rw [lw]; omega), if_neg (by omega), List.getElem?_eq_none (by rw [lw]; omega)]
  · have at_ : ∀ ls, (wT ps qs f m ls)[v]? = some (if mn ps qs f v = none ∧ v ∈ tails ls then val ps qs f m v else 0) := fun ls => by
      unfold wT
      rw [List.getElem?_map, List.getElem?_range (by omega)]
      rfl
    have et : tails (ls ++ [p :: down (mainL ps qs f) (ps.length + 1 - s) s]) = tails ls ++ (ini ++ [l]) := by
      rw [tails_app, h1]
      congr 1
      unfold tails
      simp
    rw [at_, at_, et]
    by_cases e : l = v
    · subst e
      rw [if_pos rfl, if_pos (show l < (wT ps qs f m ls).length by rw [lw]; omega), if_pos ⟨h3, by simp⟩]
      congr 1
      omega
    · rw [if_neg e]
      congr 1
      by_cases c1 : mn ps qs f v = none
      · have : v ∈ tails ls ++ (ini ++ [l]) ↔ v ∈ tails ls := by
          rw [List.mem_append, List.mem_append, List.mem_singleton]
          refine ⟨fun z => z.elim id fun z => z.elim (fun z => absurd c1 (h4 v z)) fun z => absurd z.symm e, .inl⟩
        simp only [this]
      · rw [if_neg (fun z => c1 z.1), if_neg (fun z => c1 z.1)]
theorem wT_all (ok : okT ps qs) (hI : IsH ps qs 0 f) (m : Int) (h1 : 1 ≤ ps.length) : wT ps qs f m (pathsTo ps (mainL ps qs f) ps.length) = worst ps qs f m := by
  unfold wT worst
  apply List.map_congr_left
  intro v hv
  rw [List.mem_range] at hv
  by_cases c : mn ps qs f v = none
  · by_cases c0 : v = 0
    · subst c0
      have e := leaf_one ok hI (by omega) c
      have hu := up_ht ok hI (i := 0) (by omega)
      have hp := (par_lt ok (i := 0) (by omega)).2
      rw [show par ps 0 = 0 by omega, e] at hu
      have hu : pw qs 1 * ht f 1 ≤ 1 := hu
      have hq := pw_ok ok (u := 1) (by omega) (by omega)
      have hb := (hI.bnd 1).1
      have m1 : (2 : Int) * 1 ≤ pw qs 1 * ht f 1 := Int.mul_le_mul hq.1 hb (by decide) (by omega)
      omega
    · have hm : v ∈ tails (pathsTo ps (mainL ps qs f) ps.length) := ((paths_perm (f := f) ok).mem_iff).mpr (by rw [List.mem_range'_1]; omega)
      rw [if_pos ⟨c, hm⟩, if_pos c]
  · rw [if_neg (fun z => c z.1), if_neg c]
end
end K14
set_option maxRecDepth 100000
set_option maxHeartbeats 4000000
namespace K14
open PySem PySem.Spec PyProof.Rows L2 SI
local macro_rules | `(tactic| walk_at "lk") => `(tactic| first | exact lk_hit | exact lk_nil | (refine lk_next (by decide +kernel) ?_; walk_at "lk"))
/-- a placing at its address -/
def pebF (a : Addr) (n s : Int) : List (Str × V) := [("counts", .ref a), ("nodes", .int n), ("size", .int s)]
def PebAt (C : Addr) (H : Hp) (t : Addr) (ns : List Int) : Prop := ∃ dx a, H t = some (.ins C dx (pebF a (ns.length : Nat) ns.sum)) ∧ H a = some (.tup (ns.map V.int))
def okP (ns : List Int) : Prop := 1 ≤ ns.length ∧ ns.length ≤ 64 ∧ ∀ x ∈ ns, 0 ≤ x ∧ x ≤ 10 ^ 120
theorem PebAt.same {C t : Addr} {H H' : Hp} {ns : List Int} (s : Same H H') (h : PebAt C H t ns) : PebAt C H' t ns := by
  obtain ⟨dx, a, h1, h2⟩ := h
  exact ⟨dx, a, s _ _ h1, s _ _ h2⟩
def spCnt : Sp := fun vs H Q _ => ∃ n : Int, vs = [.int n] ∧ 1 ≤ n ∧ n ≤ 64 ∧ Q .non H
def spEnt (K : PySem.W.Frag) : Sp := fun vs H Q _ => ∃ (a : Addr) (ns : List Int), vs = [.ref a] ∧ SqT K H a (ns.map V.int) ∧ (∀ x ∈ ns, 0 ≤ x ∧ x ≤ 10 ^ 120) ∧ ∀ H', Same H H' → Q .non H'
def spPeb (K : PySem.W.Frag) (C : Addr) : Sp := fun vs H Q E => ∃ (p dx a : Addr) (ns : List Int), vs = [.ref p, .ref a] ∧ H p = some (.ins C dx []) ∧ RowR K H a ns ∧ okP ns ∧
  ∀ H', (∀ b o, b ≠ p → H b = some o → H' b = some o) → PebAt C H' p ns → Q .non H'
theorem peb_ok {K : PySem.W.Frag} {C : Addr} {H1 : Hp} {a x dx : Addr} {ns : List Int} {Q : VK} {E : XK} (hx : H1 x = none) (hdx : H1 dx = none) (ok : okP ns) (ha : RowR K H1 a ns)
    (k : ∀ H', Same H1 H' → PebAt C H' x ns → Q .non H') : spPeb K C (.ref x :: ([.ref a] ++ [])) (upd (upd H1 dx (.own x)) x (.ins C dx [])) Q E := by
  have s0 : Same H1 (upd (upd H1 dx (.own x)) x (.ins C dx [])) := smM (sm0 hdx) hx
  exact ⟨x, dx, a, ns, rfl, upd_same, ha.same s0, ok, fun H' hb' ht => k H' (fun c o e => hb' c o (ne_of_none e hx) (s0 _ _ e)) ht⟩
section
variable {P : Program} {w : World} {K : PySem.W.Frag} {mg : Str → Option Value} {base : Heap} {Ad1 Ad2 Ad3 Ad4 Ad5 Ad6 Ad9 Ad10 Ad11 Ad12 : Addr}
theorem scCheckCounts : FnScope ["many"] ["many"] (defScope sCheckCounts) := ⟨rfl, rfl, rfl, by decide +kernel, rfl, by decide +kernel, by decide +kernel⟩
theorem ok_CheckCounts (T : Txt P w K mg base Ad1 Ad2 Ad3 Ad4 Ad5 Ad6 Ad9 Ad10 Ad11 Ad12) : Cl P w K mg base 3 "check_counts" spCnt [] := by
  refine cl_of T.d_check_counts scCheckCounts (fun vs H Q E h => ?_) fun f cdv A outer s H vs Q E hr h => ?_
  · obtain ⟨n, rfl, _⟩ := h
    rfl
  · obtain ⟨n, rfl, h1, h2, k⟩ := h
    refine ⟨_, (pss_one (ps_if (PW.pt (pw_or (pt_cmpR op_lt (pv 0) pe_int (nomark _)) (pw_or1 (pt_cmpR op_gt (pv 0) (pe_const rfl T.c_MOST_NODES) (nomark _)))))
    (pss_one (ps_raise rfl (takes_of rfl rfl rfl rfl) (pmk_rs T.rBadCount hr (by decide) rfl (pa_cons pe_str (pa_cons (pv 0) pa_nil)))))
    pss_nil)), ?_⟩
    refine ⟨_, rfl, _, _, rfl, rfl, _, rfl, ifD (fun c => absurd c (by omega)) fun c => ?_⟩
    refine ⟨_, rfl, _, _, rfl, rfl, _, rfl, ifD (fun c => absurd c (by omega)) fun c => ?_⟩
    exact k
theorem scCheckEntries : FnScope ["counts", "at", "count"] ["counts"] (defScope sCheckEntries) := ⟨rfl, rfl, rfl, by decide +kernel, rfl, by decide +kernel, by decide +kernel⟩
theorem ok_CheckEntries (T : Txt P w K mg base Ad1 Ad2 Ad3 Ad4 Ad5 Ad6 Ad9 Ad10 Ad11 Ad12) : Cl P w K mg base 3 "check_entries" (spEnt K) [] := by
  refine cl_of T.d_check_entries scCheckEntries (fun vs H Q E h => ?_) fun f cdv A outer s H vs Q E hr h => ?_
  · obtain ⟨a, ns, rfl, _⟩ := h
    rfl
  · obtain ⟨a, ns, rfl, ha, hb, k⟩ := h
    refine ⟨_, (pss_one (ps_for (passes_of rfl) rfl (pi_enumT (by rfl) T.b_enumerate (pa_cons (pv 0) pa_nil)) (pg_tup rfl (pgs_cons (pg_name (i := 1) scCheckEntries.nd rfl (by first | exact Or.inl rfl | exact Or.inr rfl)) (pgs_cons (pg_name (i := 2) scCheckEntries.nd rfl (by first | exact Or.inl rfl | exact Or.inr rfl)) pgs_nil)))
    (pss_one (ps_if (PW.pt (pw_or (pt_cmpR op_lt (pv 2) pe_int (nomark _)) (pw_or1 (pt_cmpR op_gt (pv 2) (pe_const rfl T.c_MOST) (nomark _)))))
      (pss_one (ps_raise rfl (takes_of rfl rfl rfl rfl) (pmk_rs T.rNotPebbles hr (by decide) rfl (pa_cons (pv 1) pa_nil))))
      pss_nil)))), ?_⟩
    refine ⟨_, rfl, a, _, rfl, ha, for_enumT (K := K) (a := a) (xs := ns.map V.int) (fun i σ H' => ∃ v1 v2 : Option V, σ = [some (.ref a), v1, v2] ∧ Same H H')
      ⟨none, none, rfl, Same.refl H⟩ (fun i σ H' h => by obtain ⟨_, _, _, sh⟩ := h; exact smT sh ha) (fun i x Tq σ H' hx h hT => ?_) fun σ H' h => ?_⟩
    · obtain ⟨v1, v2, rfl, sh⟩ := h
      obtain ⟨z, hz, rfl⟩ := ints_at hx
      have hb1 := hb z (List.mem_of_getElem? hz)
      refine ⟨Tq, _, rfl, .inl (.inl upd_same), rfl, ?_⟩
      refine ⟨_, _, rfl, _, _, rfl, rfl, _, rfl, _, _, rfl, rfl, _, rfl, ifD (fun c => absurd c (by omega)) fun c => ?_⟩
      refine ⟨_, rfl, _, _, rfl, rfl, _, rfl, ifD (fun c => absurd c (by omega)) fun c => ?_⟩
      exact ⟨_, _, rfl, smN sh hT⟩
    · obtain ⟨v1, v2, rfl, sh⟩ := h
      exact k H' sh
theorem scPebblesInit : FnScope ["self", "counts", "kept"] ["self", "counts"] (defScope sPebblesInit) := ⟨rfl, rfl, rfl, by decide +kernel, rfl, by decide +kernel, by decide +kernel⟩
theorem ok_Pebbles (T : Txt P w K mg base Ad1 Ad2 Ad3 Ad4 Ad5 Ad6 Ad9 Ad10 Ad11 Ad12) : Mkd P w K mg base 4 "Pebbles" Ad12 "Pebbles.__init__" sPebblesInit ["self", "counts"] (spPeb K Ad12) := by
  have c_CheckCounts := ok_CheckCounts T
  have c_CheckEntries := ok_CheckEntries T
  refine mkd_of T.m_Pebbles scPebblesInit (fun vs H Q E h => ?_) fun f cdv A outer s H vs Q E hr h => ?_
  · obtain ⟨p, dx, a, ns, rfl, _⟩ := h
    rfl
  · obtain ⟨p, dx, a, ns, rfl, hp, ha, ⟨ok1, ok2, ok3⟩, k⟩ := h
    refine ⟨_, (pss_cons (ps_set (i := 2) scPebblesInit.nd rfl (by first | exact Or.inl rfl | exact Or.inr rfl) (pe_callTy call_tupR (by rfl) T.b_tuple (by decide +kernel) (pa_cons (pv 1) pa_nil)))
  (pss_cons (ps_expr (pe_cX (takes_of rfl rfl rfl rfl) c_CheckCounts hr (by decide) rfl (pa_cons (pe_callB call_len_seq (by rfl) T.b_len (by decide +kernel) (pa_cons (pv 2) pa_nil)) pa_nil)))
  (pss_cons (ps_expr (pe_cX (takes_of rfl rfl rfl rfl) c_CheckEntries hr (by decide) rfl (pa_cons (pv 2) pa_nil)))
  (pss_cons (ps_fld (pv 0) (pv 2) rfl)
  (pss_cons (ps_fld (pv 0) (pe_callB call_len_seq (by rfl) T.b_len (by decide +kernel) (pa_cons (pv 2) pa_nil)) rfl)
  (pss_one (ps_fld (pv 0) (pe_callB (cr_sumT rfl) (by rfl) T.b_sum (by decide +kernel) (pa_cons (pv 2) pa_nil)) rfl))))))), ?_⟩
    refine ⟨_, rfl, tup_of ha fun q H1 s1 hq => ?_⟩
    have eln : (((ns.map V.int).length : Nat) : Int) = (ns.length : Nat) := by rw [List.length_map]
    refine ⟨_, rfl, q, _, rfl, .inr (SqT.of hq), _, rfl, by rw [eln]; omega, by rw [eln]; omega, ?_⟩
    refine ⟨_, rfl, q, ns, rfl, SqT.of hq, ok3, fun H2 s2 => ?_⟩
    have s3 := s1.trans s2
    have hp3 := s3 _ _ hp
    have hq3 := s2 _ _ hq
    have n1 : q ≠ p := ne_of hq3 hp3 (by intro z; cases z)
    refine ⟨_, rfl, _, rfl, p, Ad12, dx, _, rfl, hp3, T.lPebbles, T.nPebbles_counts, (by decide), ?_⟩
    refine ⟨_, rfl, q, _, rfl, .inr (SqT.of (by rw [upd_ne n1]; exact hq3)), _, rfl, p, Ad12, dx, _, rfl, upd_same, T.lPebbles, T.nPebbles_nodes, (by show 1 < 1000; decide), ?_⟩
    refine ⟨_, rfl, q, ns, rfl, SqT.of (by rw [upd_ne n1, upd_ne n1]; exact hq3), _, rfl, p, Ad12, dx, _, rfl, upd_same, T.lPebbles, T.nPebbles_size, (by show 2 < 1000; decide), ?_⟩
    rw [upd_upd, upd_upd]
    refine k _ (fun b o nb e => ?_) ⟨dx, q, ?_, ?_⟩
    · rw [upd_ne nb]
      exact s3 _ _ e
    · rw [upd_same, List.length_map, putF_new (f := "counts") (by walk_at "lk"), putF_new (f := "nodes") (by walk_at "lk"), putF_new (f := "size") (by walk_at "lk")]
      rfl
    · rw [upd_ne n1]; exact hq3
end
end K14
set_option maxRecDepth 100000
set_option maxHeartbeats 4000000
namespace K14
open PySem PySem.Spec PyProof.Rows L2 SI
local macro_rules | `(tactic| walk_at "lk") => `(tactic| first | exact lk_hit | exact lk_nil | (refine lk_next (by decide +kernel) ?_; walk_at "lk"))
section
variable {ps qs f : List Int}
/-- what the children of the root send -/
def kS (ps ups : List Int) : Nat → Int
  | 0 => 0
  | i + 1 => kS ps ups i + (if ps[i]? = some 0 then ups.getD (i + 1) 0 else 0)
theorem kS_set {ups : List Int} {j : Nat} {x : Int} (hj : j < ups.length) (h1 : 1 ≤ j) : ∀ i, kS ps (ups.set j x) i = kS ps ups i + (if j ≤ i ∧ ps[j - 1]? = some 0 then x - ups.getD j 0 else 0)
  | 0 => by
    rw [if_neg (by omega)]
    rfl
  | i + 1 => by
    show kS ps (ups.set j x) i + (if ps[i]? = some 0 then (ups.set j x).getD (i + 1) 0 else 0) = kS ps ups i + (if ps[i]? = some 0 then ups.getD (i + 1) 0 else 0) + _
    rw [kS_set hj h1 i, getD_set hj]
    by_cases c : j = i + 1
    · subst c
      rw [if_neg (fun z => by omega), if_pos rfl, Nat.add_sub_cancel]
      by_cases c2 : ps[i]? = some 0
      · rw [if_pos c2, if_pos c2, if_pos ⟨Nat.le_refl _, c2⟩]; omega
      · rw [if_neg c2, if_neg c2, if_neg (fun z => c2 z.2)]
    · rw [if_neg c]
      by_cases c2 : j ≤ i ∧ ps[j - 1]? = some 0
      · rw [if_pos c2, if_pos (show j ≤ i + 1 ∧ ps[j - 1]? = some 0 from ⟨by omega, c2.2⟩)]; omega
      · rw [if_neg c2, if_neg (show ¬ (j ≤ i + 1 ∧ ps[j - 1]? = some 0) from fun z => c2 ⟨by omega, z.2⟩)]; omega
theorem kS_kids {ups : List Int} : ∀ i, kS ps ups i = ((kids ps 0 i).map fun v => ups.getD v.toNat 0).sum
  | 0 => rfl
  | i + 1 => by
    show kS ps ups i + _ = ((kids ps 0 i ++ _).map _).sum
    rw [kS_kids i, List.map_append, List.sum_append]
    congr 1
    by_cases c : ps[i]? = some 0
    · rw [if_pos c, if_pos c]
      show _ = ups.getD (((i : Nat) : Int) + 1).toNat 0 + 0
      rw [show (((i : Nat) : Int) + 1).toNat = i + 1 by omega, Int.add_zero]
    · rw [if_neg c, if_neg c]
      rfl
theorem kids_in (ps : List Int) (v : Int) : ∀ i, ∀ x ∈ kids ps v i, 1 ≤ x ∧ x ≤ i
  | 0, x, h => by cases h
  | i + 1, x, h => by
    have h' : x ∈ kids ps v i ++ (if ps[i]? = some v then [((i : Nat) : Int) + 1] else []) := h
    rcases List.mem_append.mp h' with h | h
    · have := kids_in ps v i x h
      omega
    · split at h
      · rw [List.mem_singleton] at h
        omega
      · cases h
/-- the root has a main child -/
theorem main0 (ok : okT ps qs) (hI : IsH ps qs 0 f) (h1 : 1 ≤ ps.length) : mn ps qs f 0 ≠ none := fun c => by
  have e := leaf_one ok hI (by omega) c
  have hu := up_ht ok hI (i := 0) (by omega)
  have hp := (par_lt ok (i := 0) (by omega)).2
  rw [show par ps 0 = 0 by omega, e] at hu
  have hu : pw qs 1 * ht f 1 ≤ 1 := hu
  have hq := pw_ok ok (u := 1) (by omega) (by omega)
  have hb := (hI.bnd 1).1
  have m1 : (2 : Int) * 1 ≤ pw qs 1 * ht f 1 := Int.mul_le_mul hq.1 hb (by decide) (by omega)
  omega
theorem paths_is2 {row : List (Option Nat)} : ∀ m, ∀ l ∈ pathsTo ps row m, ∃ p s, l = p :: down row (row.length - s) s ∧ 1 ≤ s ∧ s ≤ m ∧ par ps (s - 1) = p ∧ (p = 0 ∨ row[p]? ≠ some (some s))
  | 0, l, h => by cases h
  | m + 1, l, h => by
    have h' : l ∈ pathsTo ps row m ++ (match ps[m]? with
      | some p => if p = 0 ∨ row[p.toNat]? ≠ some (some (m + 1)) then [p.toNat :: down row (row.length - (m + 1)) (m + 1)] else []
      | none => []) := h
    rcases List.mem_append.mp h' with h2 | h2
    · obtain ⟨p, s, e, h3, h4, h5⟩ := paths_is2 m l h2
      exact ⟨p, s, e, h3, by omega, h5⟩
    · split at h2
      · rename_i p hp
        split at h2
        · rename_i hc
          rw [List.mem_singleton] at h2
          refine ⟨_, m + 1, h2, by omega, by omega, ?_, ?_⟩
          · unfold par
            rw [Nat.add_sub_cancel, List.getD_eq_getElem?_getD, hp]
            rfl
          · rcases hc with rfl | hc
            · exact .inl rfl
            · exact .inr hc
        · cases h2
      · cases h2
theorem val_bnd (ok : okT ps qs) {m : Int} (hm : 1 ≤ m) (v : Nat) : v ≤ ps.length → val ps qs f m v + 1 ≤ m * 31 ^ v := by
  induction v using Nat.strongRecOn with
  | ind v ih =>
    intro hv
    cases v with
    | zero => rw [val_zero, Int.pow_zero]; omega
    | succ i =>
      have hp := (par_lt ok (i := i) (by omega)).2
      have hq := pw_ok ok (u := i + 1) (by omega) (by omega)
      have h31 : (1 : Int) ≤ 31 ^ i := pow31 i
      rw [val_succ ok m (by omega), Int.pow_succ, ← Int.mul_assoc]
      split
      · have h1 := ih (par ps i) (by omega) (by omega)
        have h2 := val_nn (f := f) ok hm (par ps i) (by omega)
        have h3 : m * 31 ^ par ps i ≤ m * 31 ^ i := Int.mul_le_mul_of_nonneg_left (pow31_le hp) (by omega)
        have h4 : (val ps qs f m (par ps i) + 1) * pw qs (i + 1) ≤ m * 31 ^ i * 31 := Int.mul_le_mul (by omega) hq.2 (by omega) (Int.mul_nonneg (by omega) (by omega))
        omega
      · have h4 : (1 : Int) * 1 ≤ m * 31 ^ i := Int.mul_le_mul hm h31 (by decide) (by omega)
        omega
theorem val_big (ok : okT ps qs) {m : Int} (hm : 1 ≤ m) (hm6 : m ≤ 1000000) {v : Nat} (hv : v ≤ ps.length) : val ps qs f m v ≤ 10 ^ 110 := by
  have h1 := val_bnd (f := f) ok hm v hv
  have h2 : (31 : Int) ^ v ≤ 31 ^ 59 := pow31_le (by have := ok.1; omega)
  have h3 : (1 : Int) ≤ 31 ^ v := pow31 v
  have h4 : m * 31 ^ v ≤ 1000000 * 31 ^ 59 := Int.mul_le_mul hm6 h2 (by omega) (by decide)
  have h5 : (1000000 : Int) * 31 ^ 59 ≤ 10 ^ 110 := by decide +kernel
  omega
theorem sum_le {B : Int} : ∀ l : List Int, (∀ x ∈ l, x ≤ B) → l.sum ≤ l.length * B
  | [], _ => by simp
  | x :: l, h => by
    have := sum_le l fun y hy => h y (List.mem_cons_of_mem _ hy)
    have h0 := h x List.mem_cons_self
    rw [List.sum_cons, List.length_cons]
    have e : ((l.length + 1 : Nat) : Int) * B = l.length * B + B := by rw [Int.natCast_add, Int.add_mul]; simp
    omega
theorem worst_mem (ok : okT ps qs) {m : Int} (hm : 1 ≤ m) (hm6 : m ≤ 1000000) : ∀ x ∈ worst ps qs f m, 0 ≤ x ∧ x ≤ 10 ^ 110 := fun x hx => by
  unfold worst at hx
  obtain ⟨v, hv, rfl⟩ := List.mem_map.mp hx
  rw [List.mem_range] at hv
  split
  · exact ⟨val_nn ok hm v (by omega), val_big ok hm hm6 (by omega)⟩
  · exact ⟨by decide, by decide⟩
theorem worst_big (ok : okT ps qs) {m : Int} (hm : 1 ≤ m) (hm6 : m ≤ 1000000) : (worst ps qs f m).sum ≤ 10 ^ 115 := by
  have h := sum_le (worst ps qs f m) fun x hx => (worst_mem ok hm hm6 x hx).2
  rw [worst_len] at h
  have h2 := ok.1
  have h3 : ((ps.length + 1 : Nat) : Int) * 10 ^ 110 ≤ 100 * 10 ^ 110 := Int.mul_le_mul_of_nonneg_right (by omega) (by decide)
  have h4 : (100 : Int) * 10 ^ 110 ≤ 10 ^ 115 := by decide +kernel
  omega
theorem le_sum : ∀ l : List Int, (∀ x ∈ l, 0 ≤ x) → 0 ≤ l.sum ∧ ∀ x ∈ l, x ≤ l.sum
  | [], _ => ⟨by decide, fun x hx => by cases hx⟩
  | y :: l, h => by
    obtain ⟨h1, h2⟩ := le_sum l fun x hx => h x (List.mem_cons_of_mem _ hx)
    have h0 := h y List.mem_cons_self
    rw [List.sum_cons]
    refine ⟨by omega, fun x hx => ?_⟩
    rcases List.mem_cons.mp hx with rfl | hx
    · omega
    · have := h2 x hx
      omega
theorem okP_of (ok : okT ps qs) {ns : List Int} (hl : ns.length = ps.length + 1) (h0 : ∀ x ∈ ns, 0 ≤ x) (hs : ns.sum ≤ 10 ^ 120) : okP ns :=
  ⟨by omega, by have := ok.1; omega, fun x hx => ⟨h0 x hx, Int.le_trans ((le_sum ns h0).2 x hx) hs⟩⟩
theorem nn_mem {h : List Int} (n : ∀ x ∈ h, 0 ≤ x) : Nn h := fun v => by
  rw [List.getD_eq_getElem?_getD]
  cases e : h[v]? with
  | none => exact Int.le_refl _
  | some x => exact n x (List.mem_of_getElem? e)
theorem worst_okP (ok : okT ps qs) {m : Int} (hm : 1 ≤ m) (hm6 : m ≤ 1000000) : okP (worst ps qs f m) := okP_of ok (worst_len m) (fun x hx => (worst_mem ok hm hm6 x hx).1) (Int.le_trans (worst_big ok hm hm6) (by decide +kernel))
/-- the count on the leaf of a path -/
theorem leaf_val (ok : okT ps qs) (hI : IsH ps qs 0 f) (m : Int) {c p s : Nat} (h0 : mn ps qs f 0 = some c) (hs : 1 ≤ s) (hs2 : s ≤ ps.length) (hp : par ps (s - 1) = p) (hst : p = 0 ∨ (mainL ps qs f)[p]? ≠ some (some s)) :
    (val ps qs f m s + 1) * ht f s = prodL qs (down (mainL ps qs f) (ps.length + 1 - s) s) * (if s = c then m else 1) := by
  have i1 := (down_sum ok hI (ps.length + 1 - s) s (by omega) (Nat.le_refl _)).1
  rw [i1]
  obtain ⟨j, rfl⟩ : ∃ j, s = j + 1 := ⟨s - 1, by omega⟩
  rw [Nat.add_sub_cancel] at hp
  have hpl := (par_lt ok (i := j) (by omega)).2
  rw [val_succ ok m (by omega), hp]
  by_cases c1 : j + 1 = c
  · subst c1
    have := (mn_up ok h0).2.2
    rw [Nat.add_sub_cancel, hp] at this
    subst this
    rw [if_pos h0, if_pos rfl, val_zero, show m - 1 + 1 = m by omega, show m * pw qs (j + 1) - 1 + 1 = m * pw qs (j + 1) by omega, Int.mul_comm m, Int.mul_assoc, Int.mul_comm m, ← Int.mul_assoc]
  · rw [if_neg c1, if_neg, Int.mul_one, Int.sub_add_cancel]
    intro z
    rcases hst with rfl | hst
    · rw [h0] at z
      exact c1 (Option.some.inj z).symm
    · exact hst (by rw [mainL_at (by omega)]; exact congrArg some z)
end
def spWidth (C C2 : Addr) : Sp := fun vs H Q _ => ∃ (t p : Addr) (ps qs ns : List Int), vs = [.ref t, .ref p] ∧ TreeAt C H t ps qs ∧ PebAt C2 H p ns ∧ ns.length = ps.length + 1 ∧ Q .non H
def spUps (K : PySem.W.Frag) (C C2 : Addr) : Sp := fun vs H Q _ => ∃ (t p : Addr) (ps qs ns : List Int), vs = [.ref t, .ref p] ∧ TreeAt C H t ps qs ∧ okT ps qs ∧ PebAt C2 H p ns ∧ ns.length = ps.length + 1 ∧
  ∀ q ups H', Same H H' → H' q = some (.tup (List.map V.int ups)) → ups.length = ps.length + 1 → (pushN ps qs ps.length ns).getD 0 0 = ns.getD 0 0 + kS ps ups ps.length → Q (.ref q) H'
def spMost (C C2 : Addr) : Sp := fun vs H Q _ => ∃ (t p : Addr) (ps qs ns : List Int), vs = [.ref t, .ref p] ∧ TreeAt C H t ps qs ∧ okT ps qs ∧ PebAt C2 H p ns ∧ ns.length = ps.length + 1 ∧ ∀ H', Same H H' → Q (.int ((pushN ps qs ps.length ns).getD 0 0)) H'
def spWorst (C2 C C12 : Addr) : Sp := fun vs H Q E => ∃ (t : Addr) (n : Int) (ps qs : List Int), vs = [.ref t, .int n] ∧ TreeAt C H t ps qs ∧ okT ps qs ∧ (1 ≤ n → n ≤ 1000000 → ∀ f p H', Same H H' → IsH ps qs 0 f → PebAt C12 H' p (worst ps qs f n) → Q (.ref p) H') ∧
  ((n < 1 ∨ 1000000 < n) → ∀ d, H d = none → E (.ref C2) (some d) (upd H d (.xd [("many", .int n), ("what", .str "many")])))
section
variable {P : Program} {w : World} {K : PySem.W.Frag} {mg : Str → Option Value} {base : Heap} {Ad1 Ad2 Ad3 Ad4 Ad5 Ad6 Ad9 Ad10 Ad11 Ad12 : Addr}
theorem scCheckTreeWidth : FnScope ["tree", "placing"] ["tree", "placing"] (defScope sCheckTreeWidth) := ⟨rfl, rfl, rfl, by decide +kernel, rfl, by decide +kernel, by decide +kernel⟩
theorem ok_CheckTreeWidth (T : Txt P w K mg base Ad1 Ad2 Ad3 Ad4 Ad5 Ad6 Ad9 Ad10 Ad11 Ad12) : Cl P w K mg base 3 "check_tree_width" (spWidth Ad11 Ad12) [] := by
  refine cl_of T.d_check_tree_width scCheckTreeWidth (fun vs H Q E h => ?_) fun f cdv A outer s H vs Q E hr h => ?_
  · obtain ⟨t, p, ps, qs, ns, rfl, _⟩ := h
    rfl
  · obtain ⟨t, p, ps, qs, ns, rfl, ⟨dx, a, b, ht, ha, hb⟩, ⟨dx2, c, hp, hc⟩, hl, k⟩ := h
    refine ⟨_, (pss_one (ps_if (pt_cmpR op_ne (pe_fld (pv 1) rfl) (pe_fld (pv 0) rfl) (nomark _))
    (pss_one (ps_raise rfl (takes_of rfl rfl rfl rfl) (pmk_rs T.rWrongWidth hr (by decide) rfl (pa_cons (pe_fld (pv 1) rfl) (pa_cons (pe_fld (pv 0) rfl) pa_nil)))))
    pss_nil)), ?_⟩
    have l1 : (treeF (ps.length + 1) a b).lookup ("nodes" : Str) = some (V.int (ps.length + 1)) := by walk_at "lk"
    have l2 : (pebF c (ns.length : Nat) ns.sum).lookup ("nodes" : Str) = some (V.int (ns.length : Nat)) := by walk_at "lk"
    refine ⟨_, rfl, p, Ad12, dx2, _, _, rfl, hp, T.lPebbles, T.nPebbles_nodes, l2, _, rfl, t, Ad11, dx, _, _, rfl, ht, T.lTree, T.nTree_nodes, l1, rfl, _, rfl, ifIN (fun z => absurd (show ((ns.length : Nat) : Int) = (ps.length : Int) + 1 by omega) z) fun _ => ?_⟩
    exact k
theorem scTreeUps : FnScope ["tree", "placing", "have", "ups", "node"] ["tree", "placing"] (defScope sTreeUps) := ⟨rfl, rfl, rfl, by decide +kernel, rfl, by decide +kernel, by decide +kernel⟩
theorem ok_TreeUps (T : Txt P w K mg base Ad1 Ad2 Ad3 Ad4 Ad5 Ad6 Ad9 Ad10 Ad11 Ad12) : Cl P w K mg base 4 "tree_ups" (spUps K Ad11 Ad12) [] := by
  have c_CheckTreeWidth := ok_CheckTreeWidth T
  refine cl_of T.d_tree_ups scTreeUps (fun vs H Q E h => ?_) fun f cdv A outer s H vs Q E hr h => ?_
  · obtain ⟨t, p, ps, qs, ns, rfl, _⟩ := h
    rfl
  · obtain ⟨t, p, ps, qs, ns, rfl, hT, ok, hP, hl, k⟩ := h
    refine ⟨_, (pss_cons (ps_expr (pe_c c_CheckTreeWidth hr (by decide) rfl (pa_cons (pv 0) (pa_cons (pv 1) pa_nil))))
  (pss_cons (ps_set (i := 2) scTreeUps.nd rfl (by first | exact Or.inl rfl | exact Or.inr rfl) (pe_callTy call_list_of (by rfl) T.b_list (by decide +kernel) (pa_cons (pe_fld (pv 1) rfl) pa_nil)))
  (pss_cons (ps_set (i := 3) scTreeUps.nd rfl (by first | exact Or.inl rfl | exact Or.inr rfl) (pe_op op_rep (pe_lst (pa_cons pe_int pa_nil)) (pe_fld (pv 0) rfl)))
  (pss_cons (ps_for (passes_of rfl) rfl (pi_range3 (by rfl) T.b_range (pa_cons (pe_op op_sub (pe_fld (pv 0) rfl) pe_int) (pa_cons pe_int (pa_cons (pe_un un_neg pe_int) pa_nil)))) (pg_name (i := 4) scTreeUps.nd rfl (by first | exact Or.inl rfl | exact Or.inr rfl))
    (pss_cons (ps_asg (pe_op op_fdivW (pe_ix ix_list (pv 2) (pv 4) (fun _ _ => rfl)) (pe_ix ix_tup (pe_fld (pv 0) rfl) (pe_op op_sub (pv 4) pe_int) (fun _ _ => rfl))) (pg_sub (pv 3) (pv 4) set_list))
    (pss_one (ps_augS (pv 2) (pe_ix ix_tup (pe_fld (pv 0) rfl) (pe_op op_sub (pv 4) pe_int) (fun _ _ => rfl)) get_list (pe_ix ix_list (pv 3) (pv 4) (fun _ _ => rfl)) ip_add set_list))))
  (pss_one (ps_ret (pe_callTy call_tupR (by rfl) T.b_tuple (by decide +kernel) (pa_cons (pv 3) pa_nil)))))))), ?_⟩
    refine ⟨_, rfl, _, rfl, t, p, ps, qs, ns, rfl, hT, hP, hl, ?_⟩
    obtain ⟨dx, a, b, ht, ha, hb⟩ := hT
    obtain ⟨dx2, c, hp, hc⟩ := hP
    have l1 : (treeF (ps.length + 1) a b).lookup ("nodes" : Str) = some (V.int (ps.length + 1)) := by walk_at "lk"
    have l2 : (treeF (ps.length + 1) a b).lookup ("parents" : Str) = some (V.ref a) := by walk_at "lk"
    have l3 : (treeF (ps.length + 1) a b).lookup ("prices" : Str) = some (V.ref b) := by walk_at "lk"
    have l4 : (pebF c (ns.length : Nat) ns.sum).lookup ("counts" : Str) = some (V.ref c) := by walk_at "lk"
    have hlen := ok.1
    refine ⟨_, rfl, p, Ad12, dx2, _, _, rfl, hp, T.lPebbles, T.nPebbles_counts, l4, c, _, rfl, .inr (SqT.of hc), fun F hF => ?_⟩
    have s1 : Same H (upd H F (.lst (ns.map V.int))) := sm0 hF
    refine ⟨by show 1 ≤ sizeLine; decide, fun z1 h1 => ?_⟩
    have s2 : Same H (upd (upd H F (.lst (ns.map V.int))) z1 (.lst [.int 0])) := smN s1 h1
    refine ⟨_, rfl, t, Ad11, dx, _, _, rfl, s2 _ _ ht, T.lTree, T.nTree_nodes, l1, z1, (ps.length : Int) + 1, _, rfl, rfl, upd_same, by omega, by omega, sz_small (by simp; omega), fun U hU => ?_⟩
    rw [show ((ps.length : Int) + 1).toNat = ps.length + 1 by omega, rep_one]
    have s3 : Same H (upd (upd (upd H F (.lst (ns.map V.int))) z1 (.lst [.int 0])) U (.lst (List.replicate (ps.length + 1) (.int 0)))) := smN s2 hU
    have hF3 : upd (upd (upd H F (.lst (ns.map V.int))) z1 (.lst [.int 0])) U (.lst (List.replicate (ps.length + 1) (.int 0))) F = some (.lst (ns.map V.int)) := atN (atN upd_same h1) hU
    have hU3 : upd (upd (upd H F (.lst (ns.map V.int))) z1 (.lst [.int 0])) U (.lst (List.replicate (ps.length + 1) (.int 0))) U = some (.lst ((List.replicate (ps.length + 1) (0 : Int)).map V.int)) := by rw [upd_same, List.map_replicate]
    have nFU : F ≠ U := ne_of_none (atN upd_same h1) hU
    have fU := s2.free hU
    generalize upd (upd (upd H F (.lst (ns.map V.int))) z1 (.lst [.int 0])) U (.lst (List.replicate (ps.length + 1) (.int 0))) = H3 at s3 hF3 hU3 ⊢
    refine ⟨_, rfl, t, Ad11, dx, _, _, rfl, s3 _ _ ht, T.lTree, T.nTree_nodes, l1, _, _, rfl, rfl, _, rfl, (ps.length : Int) + 1 - 1, 0, -1, ((ps.length : Int) + 1 - 1 - 0).toNat, rfl, RgC.neg (by omega) (by omega) (by decide) (by decide), ?_⟩
    rw [show ((ps.length : Int) + 1 - 1 - 0).toNat = ps.length by omega]
    refine for_rangeC (lo := (ps.length : Int) + 1 - 1) (c := -1) (n := ps.length) (fun i σ H' => i ≤ ps.length ∧ ∃ (v4 : Option V) (h ups : List Int), σ = [some (.ref t), some (.ref p), some (.ref F), some (.ref U), v4] ∧ Same H H' ∧ H' F = some (.lst (h.map V.int)) ∧ H' U = some (.lst (ups.map V.int)) ∧ h.length = ps.length + 1 ∧ ups.length = ps.length + 1 ∧
        pushN ps qs ps.length ns = pushN ps qs (ps.length - i) h ∧ (∀ u, u ≤ ps.length - i → ups.getD u 0 = 0) ∧ h.getD 0 0 = ns.getD 0 0 + kS ps ups ps.length)
      ⟨Nat.zero_le _, none, ns, _, rfl, s3, hF3, hU3, hl, by simp, rfl, fun u _ => by rw [List.getD_eq_getElem?_getD, List.getElem?_replicate]; split <;> rfl, ?_⟩ (fun i σ H' hi h => ?_) fun σ H' h => ?_
    · have e : ∀ n, kS ps (List.replicate (ps.length + 1) 0) n = 0 := fun n => by
        induction n with
        | zero => rfl
        | succ n ih =>
          show kS ps _ n + _ = 0
          rw [ih, List.getD_eq_getElem?_getD, List.getElem?_replicate]
          split
          · split <;> rfl
          · rfl
      rw [e, Int.add_zero]
    · obtain ⟨_, v4, h, ups, rfl, sh, hf, hu, hlh, hlu, e1, e2, e3⟩ := h
      obtain ⟨m, hm⟩ : ∃ m, m + 1 = ps.length - i := ⟨ps.length - i - 1, by omega⟩
      have hml : m < ps.length := by omega
      rw [← hm] at e1 e2
      have ev : (ps.length : Int) + 1 - 1 + (i : Nat) * (-1) = ((m + 1 : Nat) : Int) := by omega
      rw [ev]
      obtain ⟨hp1, hpm⟩ := par_lt ok hml
      obtain ⟨q, hq⟩ : ∃ q, qs[m]? = some q := ⟨_, List.getElem?_eq_getElem (by have := ok.2.1; omega)⟩
      obtain ⟨x, hx⟩ : ∃ x, h[m + 1]? = some x := ⟨_, List.getElem?_eq_getElem (by omega)⟩
      obtain ⟨y, hy⟩ : ∃ y, h[par ps m]? = some y := ⟨_, List.getElem?_eq_getElem (by omega)⟩
      have hqb := pw_ok ok (u := m + 1) (by omega) (by omega)
      rw [pw_of hq] at hqb
      have htt := sh _ _ ht
      have haa := sh _ _ ha
      have hbb := sh _ _ hb
      refine ⟨_, rfl, _, rfl, F, _, _, _, rfl, rfl, SqL.of hf, atI_nat (at_ints hx), _, rfl, t, Ad11, dx, _, _, rfl, htt, T.lTree, T.nTree_prices, l3, _, rfl, _, _, rfl, rfl, b, _, _, _, rfl, rfl, SqT.of hbb, at_of (j := m) (by omega) (at_ints hq), _, _, rfl, rfl, cdiv_small (by omega) (by omega), ?_⟩
      refine ⟨_, rfl, _, rfl, U, _, _, m + 1, rfl, rfl, hu, ixN_of rfl (by rw [List.length_map]; omega), ?_⟩
      have sh2 : Same H (upd H' U (.lst ((ups.map V.int).set (m + 1) (.int (x / q))))) := smM sh fU
      have hU2 : upd H' U (.lst ((ups.map V.int).set (m + 1) (.int (x / q)))) U = some (.lst ((ups.set (m + 1) (x / q)).map V.int)) := by rw [upd_same, List.map_set]
      have hF2 : upd H' U (.lst ((ups.map V.int).set (m + 1) (.int (x / q)))) F = some (.lst (h.map V.int)) := by rw [upd_ne nFU]; exact hf
      generalize upd H' U (.lst ((ups.map V.int).set (m + 1) (.int (x / q)))) = H4 at sh2 hU2 hF2 ⊢
      have hux : (ups.set (m + 1) (x / q))[m + 1]? = some (x / q) := List.getElem?_set_self (by omega)
      refine ⟨_, rfl, _, rfl, t, Ad11, dx, _, _, rfl, sh2 _ _ ht, T.lTree, T.nTree_parents, l2, _, rfl, _, _, rfl, rfl, a, _, _, _, rfl, rfl, SqT.of (sh2 _ _ ha), at_of (j := m) (by omega) (at_ints hp1), F, _, _, _, rfl, rfl, by omega, SqL.of hF2, atI_nat (at_ints hy), ?_⟩
      refine ⟨_, rfl, _, rfl, U, _, _, _, rfl, rfl, SqL.of hU2, atI_nat (at_ints hux), _, _, rfl, rfl, F, _, _, par ps m, rfl, rfl, hF2, ixN_of rfl (by rw [List.length_map]; omega), ?_⟩
      have es : stp ps qs m h = h.set (par ps m) (y + x / q) := by
        unfold stp
        rw [List.getD_eq_getElem?_getD, hy, List.getD_eq_getElem?_getD, hx, pw_of hq]
        rfl
      refine ⟨hi, some (.int ((m + 1 : Nat) : Int)), stp ps qs m h, ups.set (m + 1) (x / q), rfl, smM sh2 ?_, by rw [upd_same, es, List.map_set], by rw [upd_ne (Ne.symm nFU)]; exact hU2, by rw [stp_len, hlh], by rw [List.length_set, hlu], ?_, ?_, ?_⟩
      · exact hF
      · rw [e1, show ps.length - (i + 1) = m by omega]
        rfl
      · intro u hu'
        rw [getD_set (by omega), if_neg (by omega)]
        exact e2 u (by omega)
      · rw [es, getD_set (by omega), kS_set (by omega) (by omega), Nat.add_sub_cancel, hp1, e2 (m + 1) (Nat.le_refl _)]
        by_cases c0 : par ps m = 0
        · rw [if_pos c0, if_pos ⟨by omega, by rw [c0]; rfl⟩]
          rw [c0] at hy
          have : h.getD 0 0 = y := by rw [List.getD_eq_getElem?_getD, hy]; rfl
          omega
        · rw [if_neg c0, if_neg (fun z => c0 (by have := Option.some.inj z.2; omega)), Int.add_zero]
          exact e3
    · obtain ⟨_, v4, h, ups, rfl, sh, hf, hu, hlh, hlu, e1, e2, e3⟩ := h
      rw [Nat.sub_self] at e1
      refine ⟨_, rfl, tup_of (.inl (SqL.of hu)) fun q H2 s2 hq => ?_⟩
      exact k q ups H2 (sh.trans s2) hq hlu (by rw [e1]; exact e3)
end
end K14
set_option maxRecDepth 100000
set_option maxHeartbeats 4000000
namespace K14
open PySem PySem.Spec PyProof.Rows L2 SI
local macro_rules | `(tactic| walk_at "lk") => `(tactic| first | exact lk_hit | exact lk_nil | (refine lk_next (by decide +kernel) ?_; walk_at "lk"))
section
variable {P : Program} {w : World} {K : PySem.W.Frag} {mg : Str → Option Value} {base : Heap} {Ad1 Ad2 Ad3 Ad4 Ad5 Ad6 Ad9 Ad10 Ad11 Ad12 : Addr}
theorem scTreeMost : FnScope ["tree", "placing", "ups", "node"] ["tree", "placing"] (defScope sTreeMost) := ⟨rfl, rfl, rfl, by decide +kernel, rfl, by decide +kernel, by decide +kernel⟩
theorem ok_TreeMost (T : Txt P w K mg base Ad1 Ad2 Ad3 Ad4 Ad5 Ad6 Ad9 Ad10 Ad11 Ad12) : Cd P w K mg base 5 "tree_most" sTreeMost ["tree", "placing"] (spMost Ad11 Ad12) := by
  have c_CheckTreeWidth := ok_CheckTreeWidth T
  have c_TreeUps := ok_TreeUps T
  have m_TreeChildren := (ok_Children T).mt
  refine cd_of T.d_tree_most scTreeMost (fun vs H Q E h => ?_) fun f cdv A outer s H vs Q E hr h => ?_
  · obtain ⟨t, p, ps, qs, ns, rfl, _⟩ := h
    rfl
  · obtain ⟨t, p, ps, qs, ns, rfl, hT, ok, hP, hl, k⟩ := h
    refine ⟨_, (pss_cons (ps_expr (pe_c c_CheckTreeWidth hr (by decide) rfl (pa_cons (pv 0) (pa_cons (pv 1) pa_nil))))
  (pss_cons (ps_set (i := 2) scTreeMost.nd rfl (by first | exact Or.inl rfl | exact Or.inr rfl) (pe_c c_TreeUps hr (by decide) rfl (pa_cons (pv 0) (pa_cons (pv 1) pa_nil))))
  (pss_one (ps_ret (pe_op op_add (pe_ix ix_tup (pe_fld (pv 1) rfl) pe_int (fun _ _ => rfl)) (pe_callB (cr_sum rfl) (by rfl) T.b_sum (by decide +kernel) (pa_cons (pe_lc (own := [(("node" : Str), 3)]) (g := gName 3) (by rfl) scTreeMost.nd (pi_tup (pe_mt m_TreeChildren hr (by decide) (pv 0) (pa_cons pe_int pa_nil))) (blkOk_by (own := [(("node" : Str), 3)]) (N := ["tree", "placing", "ups", "node"]) (sc := defScope sTreeMost) (by decide +kernel)) (fun _ _ _ _ _ => (pg_name (i := 3) scTreeMost.nd rfl (by first | exact Or.inl rfl | exact Or.inr rfl))) (fun _ _ _ _ _ => pts_nil) (fun _ _ _ _ _ => (pe_ix ix_tupB (pv 2) (pv 3) (fun _ _ => rfl)))) pa_nil))))))), ?_⟩
    refine ⟨_, rfl, _, rfl, t, p, ps, qs, ns, rfl, hT, hP, hl, ?_⟩
    refine ⟨_, rfl, _, rfl, t, p, ps, qs, ns, rfl, hT, ok, hP, hl, fun U ups H1 s1 hU hlu e => ?_⟩
    have hT1 := hT.same s1
    obtain ⟨dx, a, b, ht, ha, hb⟩ := hT1
    obtain ⟨dx2, c, hp, hc⟩ := hP.same s1
    have l1 : (treeF (ps.length + 1) a b).lookup ("children" : Str) = none := by walk_at "lk"
    have l4 : (pebF c (ns.length : Nat) ns.sum).lookup ("counts" : Str) = some (V.ref c) := by walk_at "lk"
    obtain ⟨x, hx⟩ : ∃ x, ns[0]? = some x := ⟨_, List.getElem?_eq_getElem (by omega)⟩
    refine ⟨_, rfl, p, Ad12, dx2, _, _, rfl, hp, T.lPebbles, T.nPebbles_counts, l4, c, _, _, _, rfl, rfl, SqT.of hc, at_of (j := 0) rfl (at_ints hx), ?_⟩
    refine ⟨_, rfl, t, dx, _, rfl, ht, l1, t, ps, qs, 0, rfl, ⟨dx, a, b, ht, ha, hb⟩, ok.1, fun _ _ q H2 s2 hq => ?_, fun z => absurd z (by omega)⟩
    refine ⟨q, rfl, ⟨_, SqT.of hq⟩, fun D hD => ?_⟩
    refine lc_tup (K := K) (a := q) (xs := (kids ps 0 ps.length).map V.int) (fun i H' => Same H2 H' ∧ H' D = some (.lst ((((kids ps 0 ps.length).take i).map fun v => ups.getD v.toNat 0).map V.int)))
      ⟨sm0 hD, upd_same⟩ (fun i H' _ z => SqT.of (z.1 _ _ hq)) (fun i x H' hx z => ?_) fun H' z => ?_
    · obtain ⟨sh, hacc⟩ := z
      obtain ⟨v, hv, rfl⟩ := ints_at hx
      have hin := kids_in ps 0 ps.length v (List.mem_of_getElem? hv)
      obtain ⟨y, hy⟩ : ∃ y, ups[v.toNat]? = some y := ⟨_, List.getElem?_eq_getElem (by omega)⟩
      refine ⟨rfl, ?_⟩
      refine ⟨_, rfl, _, rfl, U, _, _, _, rfl, rfl, SqT.of (sh _ _ (s2 _ _ hU)), at_of (j := v.toNat) (by omega) (at_ints hy), _, hacc, ?_, smM sh hD, ?_⟩
      · simp only [List.length_map, List.length_take]
        exact sz_lt (by have := kids_len ps 0 ps.length; have := ok.1; omega)
      · have ey : ups.getD v.toNat 0 = y := by rw [List.getD_eq_getElem?_getD, hy]; rfl
        rw [upd_same, List.take_succ, hv, Option.toList_some, List.map_append, List.map_append]
        show _ = some (HO.lst (_ ++ [V.int (ups.getD v.toNat 0)]))
        rw [ey]
    · obtain ⟨sh, hacc⟩ := z
      rw [List.length_map, List.take_length] at hacc
      refine ⟨D, _, rfl, SqL.of hacc, _, _, rfl, rfl, ?_⟩
      have e2 : ns.getD 0 0 = x := by rw [List.getD_eq_getElem?_getD, hx]; rfl
      rw [← kS_kids, ← e2]
      have z := k H' ((s1.trans s2).trans sh)
      rw [e] at z
      exact z
theorem scTreeWorst : FnScope ["tree", "many", "first", "counts", "path", "times"] ["tree", "many"] (defScope sTreeWorst) := ⟨rfl, rfl, rfl, by decide +kernel, rfl, by decide +kernel, by decide +kernel⟩
theorem ok_TreeWorst (T : Txt P w K mg base Ad1 Ad2 Ad3 Ad4 Ad5 Ad6 Ad9 Ad10 Ad11 Ad12) : CdD P w K mg base 6 "tree_worst" sTreeWorst ["tree", "many"] (spWorst Ad2 Ad11 Ad12) [.int 1] := by
  have c_CheckWanted := ok_CheckWanted T
  have c_MainChildren := ok_MainChildren T
  have c_Paths := (ok_Paths T).cl
  have c_PathProduct := ok_PathProduct T
  have k_Pebbles := (ok_Pebbles T).mkr
  refine cdd_of T.d_tree_worst scTreeWorst (fun vs H Q E h => ?_) fun f cdv A outer s H vs Q E hr h => ?_
  · obtain ⟨t, n, ps, qs, rfl, _⟩ := h
    rfl
  · obtain ⟨t, n, ps, qs, rfl, hT, ok, k1, k2⟩ := h
    refine ⟨_, (pss_cons (ps_expr (pe_cX (takes_of rfl rfl rfl rfl) c_CheckWanted hr (by decide) rfl (pa_cons (pv 1) pa_nil)))
  (pss_cons (ps_set (i := 2) scTreeWorst.nd rfl (by first | exact Or.inl rfl | exact Or.inr rfl) (pe_ix ix_tup (pe_c c_MainChildren hr (by decide) rfl (pa_cons (pv 0) pa_nil)) pe_int (fun _ _ => rfl)))
  (pss_cons (ps_set (i := 3) scTreeWorst.nd rfl (by first | exact Or.inl rfl | exact Or.inr rfl) (pe_op op_rep (pe_lst (pa_cons pe_int pa_nil)) (pe_fld (pv 0) rfl)))
  (C8.pss_cut (ps_if (pt_cmpR op_isN (pv 2) pe_non (nomark _))
    (pss_one (ps_asg (pe_op op_sub (pv 1) pe_int) (pg_sub (pv 3) pe_int set_list)))
    pss_nil)
  (pss_cons (ps_for (passes_of rfl) rfl (pi_tup (pe_c c_Paths hr (by decide) rfl (pa_cons (pv 0) pa_nil))) (pg_name (i := 4) scTreeWorst.nd rfl (by first | exact Or.inl rfl | exact Or.inr rfl))
    (pss_cons (ps_set (i := 5) scTreeWorst.nd rfl (by first | exact Or.inl rfl | exact Or.inr rfl) (pe_mono (pe_ifExp (pt_cmpR op_eq (pe_ix ix_tup (pv 4) pe_int (fun _ _ => rfl)) (pv 2) (nomark _)) (pv 1) pe_int)))
    (pss_one (ps_asg (pe_op op_sub (pe_op op_mulW (pe_c c_PathProduct hr (by decide) rfl (pa_cons (pv 0) (pa_cons (pv 4) pa_nil))) (pv 5)) pe_int) (pg_sub (pv 3) (pe_ix ix_tup (pv 4) (pe_un un_neg pe_int) (fun _ _ => rfl)) set_list)))))
  (pss_one (ps_ret (pe_mk k_Pebbles hr (by decide) rfl (pa_cons (pv 3) pa_nil))))))))), ?_⟩
    have hlen := ok.1
    refine ⟨_, rfl, n, rfl, fun c1 c2 => ?_, fun c d hd => k2 c d hd⟩
    refine ⟨_, rfl, t, ps, qs, rfl, hT, ok, fun mq H1 f s1 hI hm => ?_⟩
    rw [mainL_row] at hm
    have hm0 : ((mainL ps qs f).map nV)[0]? = some (nV (mn ps qs f 0)) := by rw [List.getElem?_map, mainL_at (by omega)]; rfl
    refine ⟨mq, _, _, _, rfl, rfl, SqT.of hm, at_of (j := 0) rfl hm0, ?_⟩
    have hT1 := hT.same s1
    obtain ⟨dx, a, b, ht, ha, hb⟩ := hT1
    have l1 : (treeF (ps.length + 1) a b).lookup ("nodes" : Str) = some (V.int (ps.length + 1)) := by walk_at "lk"
    refine ⟨by show 1 ≤ sizeLine; decide, fun z1 h1 => ?_⟩
    have s2 : Same H1 (upd H1 z1 (.lst [.int 0])) := sm0 h1
    refine ⟨_, rfl, t, Ad11, dx, _, _, rfl, s2 _ _ ht, T.lTree, T.nTree_nodes, l1, z1, (ps.length : Int) + 1, _, rfl, rfl, upd_same, by omega, by omega, sz_small (by simp; omega), fun F hF => ?_⟩
    rw [show ((ps.length : Int) + 1).toNat = ps.length + 1 by omega, rep_one]
    have s3 : Same H1 (upd (upd H1 z1 (.lst [.int 0])) F (.lst (List.replicate (ps.length + 1) (.int 0)))) := smN s2 hF
    have hF3 : upd (upd H1 z1 (.lst [.int 0])) F (.lst (List.replicate (ps.length + 1) (.int 0))) F = some (.lst ((List.replicate (ps.length + 1) (0 : Int)).map V.int)) := by rw [upd_same, List.map_replicate]
    have fF := s2.free hF
    generalize upd (upd H1 z1 (.lst [.int 0])) F (.lst (List.replicate (ps.length + 1) (.int 0))) = H3 at s3 hF3 ⊢
    refine ⟨fun σ' H' => ∃ cs : List Int, σ' = [some (.ref t), some (.int n), some (nV (mn ps qs f 0)), some (.ref F), none, none] ∧ Same H1 H' ∧ H' F = some (.lst (cs.map V.int)) ∧ (1 ≤ ps.length → cs = List.replicate (ps.length + 1) 0) ∧ (ps.length = 0 → cs = worst ps qs f n), ?_, ?_⟩
    · by_cases c0 : ps.length = 0
      · have e0 : mn ps qs f 0 = none := by unfold mn; rw [c0]; rfl
        rw [e0]
        refine ⟨_, rfl, rfl, _, rfl, ifD (fun _ => ?_) fun z => absurd rfl z⟩
        refine ⟨_, rfl, _, _, rfl, rfl, _, rfl, F, _, _, 0, rfl, rfl, hF3, ixN_of rfl (by simp), ?_⟩
        refine ⟨(List.replicate (ps.length + 1) (0 : Int)).set 0 (n - 1), rfl, smM s3 fF, by rw [upd_same, List.map_set], fun z => by omega, fun _ => ?_⟩
        unfold worst
        rw [c0]
        show [n - 1] = [if mn ps qs f 0 = none then val ps qs f n 0 else 0]
        rw [if_pos e0, val_zero]
      · obtain ⟨c, hc⟩ : ∃ c, mn ps qs f 0 = some c := by
          cases e : mn ps qs f 0 with
          | none => exact absurd e (main0 ok hI (by omega))
          | some c => exact ⟨c, rfl⟩
        rw [hc]
        refine ⟨_, rfl, rfl, _, rfl, ifD (fun z => by cases z) fun _ => ?_⟩
        exact ⟨_, rfl, s3, hF3, fun _ => rfl, fun z => absurd z c0⟩
    rintro _ H4 ⟨cs, rfl, s4, hF4, hcs1, hcs0⟩
    refine ⟨_, rfl, t, ps, qs, rfl, hT.same (s1.trans s4), ok, fun rq H5 f2 xs s5 hI2 hrq hTu => ?_⟩
    obtain rfl := isH_uniq ok.2.1 ok.2.2 hI hI2
    have hF5 := s5 _ _ hF4
    have s05 := s4.trans s5
    refine ⟨rq, rfl, ⟨xs, SqT.of hrq⟩, for_tup (K := K) (a := rq) (xs := xs) (fun i σ H' => ∃ (v4 v5 : Option V) (cs' : List Int), σ = [some (.ref t), some (.int n), some (nV (mn ps qs f 0)), some (.ref F), v4, v5] ∧ Same H1 H' ∧ (∀ b o, b ≠ F → H5 b = some o → H' b = some o) ∧ H' F = some (.lst (cs'.map V.int)) ∧ (1 ≤ ps.length → cs' = wT ps qs f n ((pathsTo ps (mainL ps qs f) ps.length).take i)) ∧ (ps.length = 0 → cs' = worst ps qs f n))
      ⟨none, none, cs, rfl, s05, fun b o _ e => e, hF5, fun z => by rw [hcs1 z, List.take_zero, wT_nil], hcs0⟩ (fun i σ H' _ h => by
        obtain ⟨_, _, _, _, _, bt, _⟩ := h
        exact SqT.of (bt _ _ (ne_of hrq hF5 (by intro z; cases z)) hrq)) (fun i x σ H' hx h => ?_) fun σ H' h => ?_⟩
    · obtain ⟨v4, v5, cs', rfl, sh, bt, hf, e1, e0⟩ := h
      obtain ⟨l, hli⟩ : ∃ l, (pathsTo ps (mainL ps qs f) ps.length)[i]? = some l := ⟨_, List.getElem?_eq_getElem (by rw [← hTu.1]; exact (List.getElem?_eq_some_iff.mp hx).1)⟩
      obtain ⟨r, rfl, hr1⟩ := hTu.2 i x l hx hli
      have hr2 := bt _ _ (ne_of hr1 hF5 (by intro z; cases z)) hr1
      have hlm := List.mem_of_getElem? hli
      have hl := paths_in (f := f) ok l hlm
      obtain ⟨p, sN, el, hs1, hs2, hpar, hst⟩ := paths_is2 _ l hlm
      rw [mainL_len] at el
      have h1len : 1 ≤ ps.length := by omega
      obtain ⟨c, hc⟩ : ∃ c, mn ps qs f 0 = some c := by
        cases e : mn ps qs f 0 with
        | none => exact absurd e (main0 ok hI h1len)
        | some c => exact ⟨c, rfl⟩
      obtain ⟨ini, lf, ed, hlf, ew⟩ := wT_snoc ok hI n ((pathsTo ps (mainL ps qs f) ps.length).take i) (p := p) hs1 hs2
      have elv := leaf_val ok hI n hc hs1 hs2 hpar hst
      have at1 : (l.map fun i => V.int (i : Nat))[1]? = some (V.int (sN : Nat)) := by
        rw [el, List.getElem?_map]
        obtain ⟨k', hk'⟩ : ∃ k', ps.length + 1 - sN = k' + 1 := ⟨ps.length - sN, by omega⟩
        rw [hk']
        rfl
      have atL : atI (l.map fun i => V.int (i : Nat)) (-1) = some (V.int (lf : Nat)) := by
        rw [el, ed, ← List.cons_append, List.map_append]
        exact atI_last _ _
      rw [hc]
      refine ⟨fun v Hx => v = .int (if sN = c then n else 1) ∧ Hx = H', ?_, ?_⟩
      · refine ⟨_, rfl, r, _, _, _, rfl, rfl, SqT.of hr2, at_of (j := 1) rfl at1, _, rfl, rfl, _, rfl, ifI (fun z => ?_) fun z => ?_⟩
        · rw [if_pos (by omega)]
          exact ⟨_, rfl, rfl, rfl⟩
        · rw [if_neg (by omega)]
          exact ⟨rfl, rfl⟩
      rintro _ Hx ⟨rfl, rfl⟩
      have hb := prodL_bnd (qs := qs) l.tail fun v hv => by have := pw_ok ok (hl.2.2 v hv).1 (hl.2.2 v hv).2; omega
      have hb2 : prodL qs l.tail ≤ 10 ^ 200 := by
        have e1 : (31 : Int) ^ l.tail.length ≤ 31 ^ 100 := pow31_le (by rw [List.length_tail]; omega)
        have e2 : (31 : Int) ^ 100 ≤ 10 ^ 200 := by decide +kernel
        omega
      have hTn : TreeAt Ad11 Hx t ps qs := (hT.same s1).same sh
      refine ⟨_, rfl, _, rfl, t, r, ps, qs, l, rfl, hTn, ok, hr2, hl.1, hl.2.1, hl.2.2, fun H6 s6 => ?_⟩
      refine ⟨_, rfl, _, _, rfl, rfl, cmul_small (abs_small (by omega) hb2) (by split; exact abs_small (by omega) (by omega); exact abs_small (by decide) (by decide +kernel)), _, _, rfl, rfl, ?_⟩
      refine ⟨_, rfl, _, rfl, _, rfl, r, _, _, _, rfl, rfl, SqT.of (s6 _ _ hr2), atL, F, _, _, lf, rfl, rfl, s6 _ _ hf, ixN_of rfl ?_, ?_⟩
      · rw [List.length_map, e1 h1len]
        unfold wT
        simp
        omega
      refine ⟨some (.ref r), some (.int (if sN = c then n else 1)), cs'.set lf (prodL qs l.tail * (if sN = c then n else 1) - 1), rfl, smM (sh.trans s6) fF, fun b o nb e => by rw [upd_ne nb]; exact s6 _ _ (bt _ _ nb e), by rw [upd_same, List.map_set], fun _ => ?_, fun z => by omega⟩
      · rw [List.take_succ, hli, Option.toList_some, el, ew, elv, e1 h1len]
        rfl
    · obtain ⟨v4, v5, cs', rfl, sh, bt, hf, e1, e0⟩ := h
      have ecs : cs' = worst ps qs f n := by
        by_cases c0 : ps.length = 0
        · exact e0 c0
        · rw [e1 (by omega), hTu.1, List.take_length]
          exact wT_all ok hI n (by omega)
      subst ecs
      refine ⟨_, rfl, fun x dx' hx hdx ne => peb_ok hx hdx (worst_okP ok c1 c2) (.inl (SqL.of hf)) fun H6 s6 hP => ⟨rfl, ?_⟩⟩
      exact k1 c1 c2 f x H6 ((s1.trans sh).trans s6) hI hP
end
end K14
set_option maxRecDepth 100000
set_option maxHeartbeats 4000000
namespace K14
open PySem PySem.Spec PyProof.Rows L2 SI
local macro_rules | `(tactic| walk_at "lk") => `(tactic| first | exact lk_hit | exact lk_nil | (refine lk_next (by decide +kernel) ?_; walk_at "lk"))
def tMonoT (t : TT) : TT := fun σ H Q => ∃ Q' : Bool → Hp → Prop, t σ H Q' ∧ ∀ b H1, Q' b H1 → Q b H1
theorem pt_mono {X : Cx} {e : Expr} {t : TT} (h : PT X e t) : PT X e (tMonoT t) := ⟨fun pins s σ H Q I ⟨Q', q, m⟩ => thn (h.run pins s σ H Q' I q) fun b s1 ⟨H1, I1, q1⟩ => ⟨H1, I1, m b H1 q1⟩⟩
def nZ : Option Nat → Int
  | none => 0
  | some c => (c : Nat)
def mainZ (ps qs f : List Int) (m : Nat) : List Int := (List.range (ps.length + 1)).map fun v => nZ (mainOf ps qs f v m)
theorem mainZ_at {ps qs f : List Int} {m v : Nat} (h : v < ps.length + 1) : (mainZ ps qs f m)[v]? = some (nZ (mainOf ps qs f v m)) := by
  unfold mainZ
  rw [List.getElem?_map, List.getElem?_range h]
  rfl
theorem mainZ_next {ps qs f : List Int} {m p : Nat} {q x y : Int} (hp : ps[m]? = some (p : Int)) (hq : qs[m]? = some q) (hx : f[m + 1]? = some x) (hy : f[p]? = some y) (hpl : p < ps.length + 1) :
    mainZ ps qs f (m + 1) = if mainOf ps qs f p m = none ∧ q * x = y then (mainZ ps qs f m).set p ((m + 1 : Nat) : Int) else mainZ ps qs f m := by
  have other : ∀ v, v ≠ p → mainOf ps qs f v (m + 1) = mainOf ps qs f v m := fun v hv => by
    show (match mainOf ps qs f v m with | some c => some c | none => _) = _
    cases e : mainOf ps qs f v m with
    | some c => rfl
    | none =>
      show (if hit ps qs f v m = true then _ else _) = _
      rw [if_neg]
      intro h
      unfold hit at h
      rw [Bool.and_eq_true, decide_eq_true_eq, hp] at h
      have := Option.some.inj h.1
      omega
  have own : mainOf ps qs f p (m + 1) = if mainOf ps qs f p m = none ∧ q * x = y then some (m + 1) else mainOf ps qs f p m := by
    show (match mainOf ps qs f p m with | some c => some c | none => _) = _
    cases e : mainOf ps qs f p m with
    | some c =>
      show some c = _
      exact (if_neg (fun z : some c = none ∧ q * x = y => by cases z.1)).symm
    | none =>
      show (if hit ps qs f p m = true then _ else _) = _
      have eh : hit ps qs f p m = decide (q * x = y) := by
        unfold hit rests
        rw [hq, hx, hy, decide_eq_true hp]
        rfl
      rw [eh]
      by_cases c : q * x = y
      · rw [if_pos (decide_eq_true c), if_pos ⟨rfl, c⟩]
      · rw [if_neg (by simp [c]), if_neg (fun z => c z.2)]
  apply List.ext_getElem?
  intro v
  rcases Nat.lt_or_ge v (ps.length + 1) with h | h
  · rw [mainZ_at h]
    by_cases e : v = p
    · subst e
      rw [own]
      split
      · rw [List.getElem?_set_self (by unfold mainZ; simp; omega)]; rfl
      · rw [mainZ_at h]
    · rw [other v e]
      split
      · rw [List.getElem?_set_ne (Ne.symm e), mainZ_at h]
      · rw [mainZ_at h]
  · have l1 : ∀ m, (mainZ ps qs f m).length = ps.length + 1 := fun m => by unfold mainZ; simp
    rw [List.getElem?_eq_none (by rw [l1]; exact h)]
    split
    · rw [List.getElem?_eq_none (by rw [List.length_set, l1]; exact h)]
    · rw [List.getElem?_eq_none (by rw [l1]; exact h)]

/-- one node down, k nodes down -/
def nxt (ps qs f : List Int) (v : Nat) : Nat := match mn ps qs f v with
  | some c => c
  | none => v
def itN (ps qs f : List Int) : Nat → Nat → Nat
  | 0, v => v
  | k + 1, v => itN ps qs f k (nxt ps qs f v)
section
variable {ps qs f : List Int}
theorem itN_succ : ∀ k v, itN ps qs f (k + 1) v = nxt ps qs f (itN ps qs f k v)
  | 0, v => rfl
  | k + 1, v => itN_succ k (nxt ps qs f v)
theorem itN_fix {v : Nat} (h : nxt ps qs f v = v) : ∀ k, itN ps qs f k v = v
  | 0 => rfl
  | k + 1 => by
    show itN ps qs f k (nxt ps qs f v) = v
    rw [h]
    exact itN_fix h k
theorem itN_last (ok : okT ps qs) : ∀ (k v : Nat), v < ps.length + 1 → ps.length + 1 - v ≤ k → ∀ ini l j, down (mainL ps qs f) k v = ini ++ [l] → ps.length - v ≤ j → itN ps qs f j v = l
  | 0, v, h1, h2 => by omega
  | k + 1, v, h1, h2 => fun ini l j ed hj => by
    have e0 : down (mainL ps qs f) (k + 1) v = v :: (match (mainL ps qs f)[v]? with | some (some c) => down (mainL ps qs f) k c | _ => []) := rfl
    rw [mainL_at h1] at e0
    cases e : mainOf ps qs f v ps.length with
    | none =>
      rw [e] at e0
      have e1 : down (mainL ps qs f) (k + 1) v = [v] := e0
      rw [e1] at ed
      have hl : l = v := by
        cases ini with
        | nil => cases ed; rfl
        | cons a r => cases r <;> cases ed
      subst hl
      refine itN_fix ?_ j
      unfold nxt mn
      rw [e]
    | some c =>
      rw [e] at e0
      have e1 : down (mainL ps qs f) (k + 1) v = v :: down (mainL ps qs f) k c := e0
      have hc := mn_up ok (f := f) (show mn ps qs f v = some c from e)
      rw [e1] at ed
      obtain ⟨j, rfl⟩ : ∃ i, j = i + 1 := ⟨j - 1, by omega⟩
      have en : nxt ps qs f v = c := by
        unfold nxt mn
        rw [e]
      show itN ps qs f j (nxt ps qs f v) = l
      rw [en]
      obtain ⟨k', rfl⟩ : ∃ i, k = i + 1 := ⟨k - 1, by omega⟩
      cases ini with
      | nil =>
        have : down (mainL ps qs f) (k' + 1) c = [] := (List.cons.inj ed).2
        cases this
      | cons a r => exact itN_last ok (k' + 1) c (by omega) (by omega) r l j (List.cons.inj ed).2 (by omega)
theorem itN_le (ok : okT ps qs) {v : Nat} (hv : v ≤ ps.length) : ∀ k, itN ps qs f k v ≤ ps.length
  | 0 => hv
  | k + 1 => by
    rw [itN_succ]
    have := itN_le ok hv k
    unfold nxt
    cases e : mn ps qs f (itN ps qs f k v) with
    | none => exact this
    | some c => exact (mn_up ok e).2.1
theorem wT_len (m : Int) (ls : List (List Nat)) : (wT ps qs f m ls).length = ps.length + 1 := by unfold wT; simp
end
def spWRow : Sp := fun vs H Q _ => ∃ (a b : Addr) (ps qs : List Int) (m : Int), vs = [.ref a, .ref b, .int m] ∧ H a = some (.lst (ps.map V.int)) ∧ H b = some (.lst (qs.map V.int)) ∧ okT ps qs ∧ 1 ≤ m ∧ m ≤ 1000000 ∧ ∀ q H' f, Same H H' → H q = none → IsH ps qs 0 f → H' q = some (.lst ((worst ps qs f m).map V.int)) → Q (.ref q) H'
def spBr : Sp := fun vs H Q _ => ∃ (a b c : Addr) (ps qs ns : List Int), vs = [.ref a, .ref b, .ref c] ∧ H a = some (.lst (ps.map V.int)) ∧ H b = some (.lst (qs.map V.int)) ∧ H c = some (.lst (ns.map V.int)) ∧ okT ps qs ∧ ns.length = ps.length + 1 ∧ ∀ H', Same H H' → Q (.int ((pushN ps qs ps.length ns).getD 0 0)) H'
section
variable {P : Program} {w : World} {K : PySem.W.Frag} {mg : Str → Option Value} {base : Heap} {Ad1 Ad2 Ad3 Ad4 Ad5 Ad6 Ad9 Ad10 Ad11 Ad12 : Addr}
theorem scLBrought : FnScope ["parents", "prices", "counts", "held", "back", "node"] ["parents", "prices", "counts"] (defScope sLBrought) := ⟨rfl, rfl, rfl, by decide +kernel, rfl, by decide +kernel, by decide +kernel⟩
theorem ok_LBrought (T : Txt P w K mg base Ad1 Ad2 Ad3 Ad4 Ad5 Ad6 Ad9 Ad10 Ad11 Ad12) : Cl P w K mg base 1 "_law_brought" spBr [] := by
  refine cl_of T.d__law_brought scLBrought (fun vs H Q E h => ?_) fun f cdv A outer s H vs Q E hr h => ?_
  · obtain ⟨a, b, c, ps, qs, ns, rfl, _⟩ := h
    rfl
  · obtain ⟨a, b, c, ps, qs, ns, rfl, ha, hb, hc, ok, hl, k⟩ := h
    refine ⟨_, (pss_cons (ps_set (i := 3) scLBrought.nd rfl (by first | exact Or.inl rfl | exact Or.inr rfl) (pe_callTy call_list_of (by rfl) T.b_list (by decide +kernel) (pa_cons (pv 2) pa_nil)))
  (pss_cons (ps_for (passes_of rfl) rfl (pi_range1 (by rfl) T.b_range (pa_cons (pe_callB call_len_seq (by rfl) T.b_len (by decide +kernel) (pa_cons (pv 0) pa_nil)) pa_nil)) (pg_name (i := 4) scLBrought.nd rfl (by first | exact Or.inl rfl | exact Or.inr rfl))
    (pss_cons (ps_set (i := 5) scLBrought.nd rfl (by first | exact Or.inl rfl | exact Or.inr rfl) (pe_op op_sub (pe_callB call_len_seq (by rfl) T.b_len (by decide +kernel) (pa_cons (pv 0) pa_nil)) (pv 4)))
    (pss_one (ps_asg (pe_op op_add (pe_ix ix_list (pv 3) (pe_ix ix_list (pv 0) (pe_op op_sub (pv 5) pe_int) (fun _ _ => rfl)) (fun _ _ => rfl)) (pe_op op_fdivW (pe_ix ix_list (pv 3) (pv 5) (fun _ _ => rfl)) (pe_ix ix_list (pv 1) (pe_op op_sub (pv 5) pe_int) (fun _ _ => rfl)))) (pg_sub (pv 3) (pe_ix ix_list (pv 0) (pe_op op_sub (pv 5) pe_int) (fun _ _ => rfl)) set_list)))))
  (pss_one (ps_ret (pe_ix ix_list (pv 3) pe_int (fun _ _ => rfl)))))), ?_⟩
    have hlen := ok.1
    refine ⟨_, rfl, c, _, rfl, .inl (SqL.of hc), fun F hF => ?_⟩
    have s1 : Same H (upd H F (.lst (ns.map V.int))) := sm0 hF
    refine ⟨_, rfl, a, _, rfl, .inl (SqL.of (s1 _ _ ha)), _, rfl, by simp <;> omega, by simp <;> omega, ?_⟩
    rw [show ((((ps.map V.int).length : Nat) : Int)).toNat = ps.length by simp]
    refine for_range (lo := 0) (n := ps.length) (fun i σ H' => i ≤ ps.length ∧ ∃ (v4 v5 : Option V) (h : List Int), σ = [some (.ref a), some (.ref b), some (.ref c), some (.ref F), v4, v5] ∧ Same H H' ∧ H' F = some (.lst (h.map V.int)) ∧ h.length = ps.length + 1 ∧ pushN ps qs ps.length ns = pushN ps qs (ps.length - i) h)
      ⟨Nat.zero_le _, none, none, ns, rfl, s1, upd_same, hl, rfl⟩ (fun i σ H' hi h => ?_) fun σ H' h => ?_
    · obtain ⟨_, v4, v5, h, rfl, sh, hf, hlh, e1⟩ := h
      obtain ⟨m, hm⟩ : ∃ m, m + 1 = ps.length - i := ⟨ps.length - i - 1, by omega⟩
      have hml : m < ps.length := by omega
      rw [← hm] at e1
      obtain ⟨hp1, hpm⟩ := par_lt ok hml
      obtain ⟨q, hq⟩ : ∃ q, qs[m]? = some q := ⟨_, List.getElem?_eq_getElem (by have := ok.2.1; omega)⟩
      obtain ⟨x, hx⟩ : ∃ x, h[m + 1]? = some x := ⟨_, List.getElem?_eq_getElem (by omega)⟩
      obtain ⟨y, hy⟩ : ∃ y, h[par ps m]? = some y := ⟨_, List.getElem?_eq_getElem (by omega)⟩
      have hqb := pw_ok ok (u := m + 1) (by omega) (by omega)
      rw [pw_of hq] at hqb
      have eln : (((ps.map V.int).length : Nat) : Int) - (0 + (i : Nat)) = ((m + 1 : Nat) : Int) := by rw [List.length_map]; omega
      refine ⟨_, rfl, a, _, rfl, .inl (SqL.of (sh _ _ ha)), _, rfl, _, _, rfl, rfl, ?_⟩
      dsimp only
      rw [eln]
      refine ⟨_, rfl, _, rfl, _, rfl, _, _, rfl, rfl, a, _, _, _, rfl, rfl, SqL.of (sh _ _ ha), at_of (j := m) (by omega) (at_ints hp1), F, _, _, _, rfl, rfl, SqL.of hf, atI_nat (at_ints hy), ?_⟩
      refine ⟨_, rfl, _, rfl, F, _, _, _, rfl, rfl, SqL.of hf, atI_nat (at_ints hx), _, rfl, _, rfl, _, _, rfl, rfl, b, _, _, _, rfl, rfl, SqL.of (sh _ _ hb), at_of (j := m) (by omega) (at_ints hq), _, _, rfl, rfl, cdiv_small (by omega) (by omega), _, _, rfl, rfl, ?_⟩
      refine ⟨_, rfl, _, rfl, _, rfl, _, _, rfl, rfl, a, _, _, _, rfl, rfl, SqL.of (sh _ _ ha), at_of (j := m) (by omega) (at_ints hp1), F, _, _, par ps m, rfl, rfl, hf, ixN_of rfl (by rw [List.length_map]; omega), ?_⟩
      have es : stp ps qs m h = h.set (par ps m) (y + x / q) := by
        unfold stp
        rw [List.getD_eq_getElem?_getD, hy, List.getD_eq_getElem?_getD, hx, pw_of hq]
        rfl
      refine ⟨hi, some (.int (0 + (i : Nat))), some (.int ((m + 1 : Nat) : Int)), stp ps qs m h, rfl, smM sh hF, by rw [upd_same, es, List.map_set], by rw [stp_len, hlh], ?_⟩
      rw [e1, show ps.length - (i + 1) = m by omega]
      rfl
    · obtain ⟨_, v4, v5, h, rfl, sh, hf, hlh, e1⟩ := h
      rw [Nat.sub_self] at e1
      obtain ⟨x, hx⟩ : ∃ x, h[0]? = some x := ⟨_, List.getElem?_eq_getElem (by omega)⟩
      have e2 : (pushN ps qs ps.length ns).getD 0 0 = x := by
        rw [e1]
        show h.getD 0 0 = x
        rw [List.getD_eq_getElem?_getD, hx]
        rfl
      have z := k H' sh
      rw [e2] at z
      exact ⟨_, rfl, F, _, _, _, rfl, rfl, SqL.of hf, at_of (j := 0) rfl (at_ints hx), z⟩
theorem scLWorstRow : FnScope ["parents", "prices", "many", "heights_v", "main", "at", "counts", "child", "top", "leaf", "turn"] ["parents", "prices", "many"] (defScope sLWorstRow) := ⟨rfl, rfl, rfl, by decide +kernel, rfl, by decide +kernel, by decide +kernel⟩
theorem ok_LWorstRow (T : Txt P w K mg base Ad1 Ad2 Ad3 Ad4 Ad5 Ad6 Ad9 Ad10 Ad11 Ad12) : Cl P w K mg base 2 "_law_worst_row" spWRow [] := by
  have c_LHeightRow := ok_LHeightRow T
  refine cl_of T.d__law_worst_row scLWorstRow (fun vs H Q E h => ?_) fun f cdv A outer s H vs Q E hr h => ?_
  · obtain ⟨a, b, ps, qs, m, rfl, _⟩ := h
    rfl
  · obtain ⟨a, b, ps, qs, n, rfl, ha, hb, ok, hn1, hn2, k⟩ := h
    refine ⟨_, (pss_cons (ps_set (i := 3) scLWorstRow.nd rfl (by first | exact Or.inl rfl | exact Or.inr rfl) (pe_c c_LHeightRow hr (by decide) rfl (pa_cons (pv 0) (pa_cons (pv 1) pa_nil))))
  (pss_cons (ps_set (i := 4) scLWorstRow.nd rfl (by first | exact Or.inl rfl | exact Or.inr rfl) (pe_op op_rep (pe_lst (pa_cons pe_int pa_nil)) (pe_callB call_len_seq (by rfl) T.b_len (by decide +kernel) (pa_cons (pv 3) pa_nil))))
  (pss_cons (ps_for (passes_of rfl) rfl (pi_range1 (by rfl) T.b_range (pa_cons (pe_callB call_len_seq (by rfl) T.b_len (by decide +kernel) (pa_cons (pv 0) pa_nil)) pa_nil)) (pg_name (i := 5) scLWorstRow.nd rfl (by first | exact Or.inl rfl | exact Or.inr rfl))
    (pss_one (ps_if (PW.pt (pw_and (pt_cmpR op_eq (pe_ix ix_list (pv 4) (pe_ix ix_list (pv 0) (pv 5) (fun _ _ => rfl)) (fun _ _ => rfl)) pe_int (nomark _)) (pw_and1 (pt_cmpR op_eq (pe_op op_mulW (pe_ix ix_list (pv 1) (pv 5) (fun _ _ => rfl)) (pe_ix ix_list (pv 3) (pe_op op_add (pv 5) pe_int) (fun _ _ => rfl))) (pe_ix ix_list (pv 3) (pe_ix ix_list (pv 0) (pv 5) (fun _ _ => rfl)) (fun _ _ => rfl)) (nomark _)))))
      (pss_one (ps_asg (pe_op op_add (pv 5) pe_int) (pg_sub (pv 4) (pe_ix ix_list (pv 0) (pv 5) (fun _ _ => rfl)) set_list)))
      pss_nil)))
  (pss_cons (ps_set (i := 6) scLWorstRow.nd rfl (by first | exact Or.inl rfl | exact Or.inr rfl) (pe_op op_rep (pe_lst (pa_cons pe_int pa_nil)) (pe_callB call_len_seq (by rfl) T.b_len (by decide +kernel) (pa_cons (pv 3) pa_nil))))
  (C8.pss_cut (ps_if (pt_cmpR op_eq (pe_callB call_len_seq (by rfl) T.b_len (by decide +kernel) (pa_cons (pv 0) pa_nil)) pe_int (nomark _))
    (pss_one (ps_asg (pe_op op_sub (pv 2) pe_int) (pg_sub (pv 6) pe_int set_list)))
    pss_nil)
  (pss_cons (ps_for (passes_of rfl) rfl (pi_range2 (by rfl) T.b_range (pa_cons pe_int (pa_cons (pe_callB call_len_seq (by rfl) T.b_len (by decide +kernel) (pa_cons (pv 3) pa_nil)) pa_nil))) (pg_name (i := 7) scLWorstRow.nd rfl (by first | exact Or.inl rfl | exact Or.inr rfl))
    (pss_cons (ps_set (i := 8) scLWorstRow.nd rfl (by first | exact Or.inl rfl | exact Or.inr rfl) (pe_ix ix_list (pv 0) (pe_op op_sub (pv 7) pe_int) (fun _ _ => rfl)))
    (pss_one (ps_if (pt_mono (PW.pt (pw_or (pt_cmpR op_eq (pv 8) pe_int (nomark _)) (pw_or1 (pt_cmpR op_ne (pe_ix ix_list (pv 4) (pv 8) (fun _ _ => rfl)) (pv 7) (nomark _))))))
      (pss_cons (ps_set (i := 9) scLWorstRow.nd rfl (by first | exact Or.inl rfl | exact Or.inr rfl) (pv 7))
      (pss_cons (ps_for (passes_of rfl) rfl (pi_range1 (by rfl) T.b_range (pa_cons (pe_callB call_len_seq (by rfl) T.b_len (by decide +kernel) (pa_cons (pv 0) pa_nil)) pa_nil)) (pg_name (i := 10) scLWorstRow.nd rfl (by first | exact Or.inl rfl | exact Or.inr rfl))
        (pss_one (ps_if (pt_cmpR op_gt (pe_ix ix_list (pv 4) (pv 9) (fun _ _ => rfl)) pe_int (nomark _))
          (pss_one (ps_set (i := 9) scLWorstRow.nd rfl (by first | exact Or.inl rfl | exact Or.inr rfl) (pe_ix ix_list (pv 4) (pv 9) (fun _ _ => rfl))))
          pss_nil)))
      (pss_cons (ps_asg (pe_op op_sub (pe_op op_mulW (pe_ix ix_list (pv 1) (pe_op op_sub (pv 7) pe_int) (fun _ _ => rfl)) (pe_ix ix_list (pv 3) (pv 7) (fun _ _ => rfl))) pe_int) (pg_sub (pv 6) (pv 9) set_list))
      (pss_one (ps_if (pt_mono (PW.pt (pw_and (pt_cmpR op_eq (pv 8) pe_int (nomark _)) (pw_and1 (pt_cmpR op_eq (pe_ix ix_list (pv 4) pe_int (fun _ _ => rfl)) (pv 7) (nomark _))))))
        (pss_one (ps_asg (pe_op op_sub (pe_op op_mulW (pe_op op_mulW (pe_ix ix_list (pv 1) (pe_op op_sub (pv 7) pe_int) (fun _ _ => rfl)) (pe_ix ix_list (pv 3) (pv 7) (fun _ _ => rfl))) (pv 2)) pe_int) (pg_sub (pv 6) (pv 9) set_list)))
        pss_nil)))))
      pss_nil))))
  (pss_one (ps_ret (pv 6))))))))), ?_⟩
    have hlen := ok.1
    have hl2 := ok.2.1
    refine ⟨_, rfl, _, rfl, a, b, ps, qs, rfl, ha, hb, ok, fun G H1 f s1 hI hG => ?_⟩
    have lG : ((((f.map V.int).length : Nat)) : Int) = (ps.length : Int) + 1 := by rw [List.length_map, hI.len]; rfl
    refine ⟨by show 1 ≤ sizeLine; decide, fun z1 h1 => ?_⟩
    have s2 : Same H1 (upd H1 z1 (.lst [.int 0])) := sm0 h1
    refine ⟨_, rfl, G, _, rfl, .inl (SqL.of (s2 _ _ hG)), z1, _, _, rfl, rfl, upd_same, by rw [lG]; omega, by rw [lG]; omega, sz_small (by rw [lG]; simp; omega), fun M hM => ?_⟩
    rw [lG, show ((ps.length : Int) + 1).toNat = ps.length + 1 by omega, rep_one]
    have s3 : Same H1 (upd (upd H1 z1 (.lst [.int 0])) M (.lst (List.replicate (ps.length + 1) (.int 0)))) := smN s2 hM
    have e0 : List.replicate (ps.length + 1) (V.int 0) = (mainZ ps qs f 0).map V.int := by
      unfold mainZ
      rw [show (fun v => nZ (mainOf ps qs f v 0)) = fun _ => (0 : Int) from rfl, List.map_const', List.length_range, List.map_replicate]
    have hM3 : upd (upd H1 z1 (.lst [.int 0])) M (.lst (List.replicate (ps.length + 1) (.int 0))) M = some (.lst ((mainZ ps qs f 0).map V.int)) := by rw [upd_same, e0]
    have fM := s2.free hM
    generalize upd (upd H1 z1 (.lst [.int 0])) M (.lst (List.replicate (ps.length + 1) (.int 0))) = H3 at s3 hM3 ⊢
    refine ⟨_, rfl, a, _, rfl, .inl (SqL.of ((s1.trans s3) _ _ ha)), _, rfl, by simp <;> omega, by simp <;> omega, ?_⟩
    rw [show ((((ps.map V.int).length : Nat) : Int)).toNat = ps.length by simp]
    refine for_range (lo := 0) (n := ps.length) (fun i σ H' => ∃ v5 : Option V, σ = [some (.ref a), some (.ref b), some (.int n), some (.ref G), some (.ref M), v5, none, none, none, none, none] ∧ Same H1 H' ∧ H' M = some (.lst ((mainZ ps qs f i).map V.int)))
      ⟨none, rfl, s3, hM3⟩ (fun i σ H' hi h => ?_) fun σ H' h => ?_
    · obtain ⟨v5, rfl, sh, hMm⟩ := h
      rw [Int.zero_add]
      obtain ⟨hp, hpm⟩ := par_lt ok hi
      generalize par ps i = pn at hp hpm
      obtain ⟨q, hqq⟩ : ∃ q, qs[i]? = some q := ⟨_, List.getElem?_eq_getElem (by omega)⟩
      obtain ⟨x, hx⟩ : ∃ x, f[i + 1]? = some x := ⟨_, List.getElem?_eq_getElem (by rw [hI.len]; omega)⟩
      obtain ⟨y, hy⟩ : ∃ y, f[pn]? = some y := ⟨_, List.getElem?_eq_getElem (by rw [hI.len]; omega)⟩
      have hqb := pw_ok ok (u := i + 1) (by omega) (by omega)
      rw [pw_of hqq] at hqb
      have px := hI.pos _ _ hx
      have hbig : x ≤ 10 ^ 200 := by
        have e1 : (31 : Int) ^ (ps.length + 1 - (i + 1)) ≤ 31 ^ 60 := pow31_le (by omega)
        have e2 : (31 : Int) ^ 60 ≤ 10 ^ 200 := by decide +kernel
        omega
      have sH := s1.trans sh
      have haa := sH _ _ ha
      have hbb := sH _ _ hb
      have hhh := sh _ _ hG
      have hpl : pn < ps.length + 1 := by omega
      have nx := mainZ_next (f := f) hp hqq hx hy hpl
      have hz : nZ (mainOf ps qs f pn i) = 0 ↔ mainOf ps qs f pn i = none := by
        cases e : mainOf ps qs f pn i with
        | none => exact ⟨fun _ => rfl, fun _ => rfl⟩
        | some c => exact ⟨fun z => by have := (mainOf_up ok.parX pn _ c e).1; have z : ((c : Nat) : Int) = 0 := z; omega, fun z => by cases z⟩
      refine ⟨_, rfl, _, rfl, _, rfl, a, _, _, _, rfl, rfl, SqL.of haa, atI_nat (at_ints hp), M, _, _, _, rfl, rfl, SqL.of hMm, atI_nat (at_ints (mainZ_at hpl)), rfl, _, rfl, ?_⟩
      refine ifI (fun c => ?_) fun c => ?_
      · have e : mainOf ps qs f pn i = none := hz.mp (by omega)
        refine ⟨_, rfl, _, rfl, b, _, _, _, rfl, rfl, SqL.of hbb, atI_nat (at_ints hqq), _, rfl, _, rfl, _, _, rfl, rfl, G, _, _, _, rfl, rfl, SqL.of hhh, at_of (j := i + 1) (by omega) (at_ints hx), _, _, rfl, rfl, cmul_small (abs_small (by omega) (by omega)) (abs_small (by omega) hbig), _, rfl, _, rfl, _, rfl, a, _, _, _, rfl, rfl, SqL.of haa, atI_nat (at_ints hp), G, _, _, _, rfl, rfl, SqL.of hhh, atI_nat (at_ints hy), rfl, _, rfl, ifI (fun c => ?_) fun c => ?_⟩
        · refine ⟨_, rfl, _, _, rfl, rfl, _, rfl, _, rfl, _, rfl, a, _, _, _, rfl, rfl, SqL.of haa, atI_nat (at_ints hp), M, _, _, pn, rfl, rfl, hMm, ixN_of rfl (by unfold mainZ; simp; omega), ?_⟩
          refine ⟨_, rfl, smM sh fM, ?_⟩
          rw [upd_same, nx, if_pos ⟨e, c⟩, List.map_set]
          rfl
        · refine ⟨_, rfl, sh, ?_⟩
          rw [nx, if_neg (fun z => c z.2)]
          exact hMm
      · refine ⟨_, rfl, sh, ?_⟩
        rw [nx, if_neg (fun z => c (by rw [hz.mpr z.1]))]
        exact hMm
    obtain ⟨v5, rfl, s4, hM4⟩ := h
    have hM4' : H' M = some (.lst ((mainZ ps qs f ps.length).map V.int)) := hM4
    clear hM4
    have hG4 := s4 _ _ hG
    refine ⟨by show 1 ≤ sizeLine; decide, fun z2 h2 => ?_⟩
    have s5 : Same H1 (upd H' z2 (.lst [.int 0])) := smN s4 h2
    refine ⟨_, rfl, G, _, rfl, .inl (SqL.of (s5 _ _ hG)), z2, _, _, rfl, rfl, upd_same, by rw [lG]; omega, by rw [lG]; omega, sz_small (by rw [lG]; simp; omega), fun C hC => ?_⟩
    rw [lG, show ((ps.length : Int) + 1).toNat = ps.length + 1 by omega, rep_one]
    have s6 : Same H1 (upd (upd H' z2 (.lst [.int 0])) C (.lst (List.replicate (ps.length + 1) (.int 0)))) := smN s5 hC
    have hC6 : upd (upd H' z2 (.lst [.int 0])) C (.lst (List.replicate (ps.length + 1) (.int 0))) C = some (.lst ((List.replicate (ps.length + 1) (0 : Int)).map V.int)) := by rw [upd_same, List.map_replicate]
    have hM6 := atN (q := C) (o := .lst (List.replicate (ps.length + 1) (.int 0))) (atN (q := z2) (o := .lst [.int 0]) hM4' h2) hC
    have nMC : M ≠ C := ne_of_none (atN hM4' h2) hC
    have fC := s5.free hC
    generalize upd (upd H' z2 (.lst [.int 0])) C (.lst (List.replicate (ps.length + 1) (.int 0))) = H6 at s6 hC6 hM6 ⊢
    have elp : (((ps.map V.int).length : Nat) : Int) = (ps.length : Nat) := by rw [List.length_map]
    refine ⟨fun σ' Hx => ∃ cs : List Int, σ' = [some (.ref a), some (.ref b), some (.int n), some (.ref G), some (.ref M), v5, some (.ref C), none, none, none, none] ∧ Same H1 Hx ∧ Hx M = some (.lst ((mainZ ps qs f ps.length).map V.int)) ∧ Hx C = some (.lst (cs.map V.int)) ∧ (1 ≤ ps.length → cs = List.replicate (ps.length + 1) 0) ∧ (ps.length = 0 → cs = worst ps qs f n), ?_, ?_⟩
    · refine ⟨_, rfl, a, _, rfl, .inl (SqL.of ((s1.trans s6) _ _ ha)), rfl, _, rfl, ifI (fun c => ?_) fun c => ?_⟩
      · have c0 : ps.length = 0 := by rw [elp] at c; omega
        have e0 : mn ps qs f 0 = none := by unfold mn; rw [c0]; rfl
        refine ⟨_, rfl, _, _, rfl, rfl, _, rfl, C, _, _, 0, rfl, rfl, hC6, ixN_of rfl (by simp), ?_⟩
        refine ⟨(List.replicate (ps.length + 1) (0 : Int)).set 0 (n - 1), rfl, smM s6 fC, by rw [upd_ne nMC]; exact hM6, by rw [upd_same, List.map_set], fun z => by omega, fun _ => ?_⟩
        unfold worst
        rw [c0]
        show [n - 1] = [if mn ps qs f 0 = none then val ps qs f n 0 else 0]
        rw [if_pos e0, val_zero]
      · exact ⟨_, rfl, s6, hM6, hC6, fun _ => rfl, fun z => absurd (show (((ps.map V.int).length : Nat) : Int) = 0 by rw [elp, z]; rfl) c⟩
    rintro _ H7 ⟨cs, rfl, s7, hM7, hC7, hcs1, hcs0⟩
    refine ⟨_, rfl, G, _, rfl, .inl (SqL.of (s7 _ _ hG)), 1, _, rfl, ⟨by decide, by decide, by rw [lG]; omega, by rw [lG]; omega⟩, ?_⟩
    rw [lG, show ((ps.length : Int) + 1 - 1).toNat = ps.length by omega]
    refine for_range (lo := 1) (n := ps.length) (fun i σ H' => ∃ (v7 v8 v9 v10 : Option V) (cs' : List Int), σ = [some (.ref a), some (.ref b), some (.int n), some (.ref G), some (.ref M), v5, some (.ref C), v7, v8, v9, v10] ∧ Same H1 H' ∧ H' M = some (.lst ((mainZ ps qs f ps.length).map V.int)) ∧ H' C = some (.lst (cs'.map V.int)) ∧ (1 ≤ ps.length → cs' = wT ps qs f n (pathsTo ps (mainL ps qs f) i)) ∧ (ps.length = 0 → cs' = worst ps qs f n))
      ⟨none, none, none, none, cs, rfl, s7, hM7, hC7, fun z => by rw [hcs1 z]; exact (wT_nil n).symm, hcs0⟩ (fun i σ H' hi h => ?_) fun σ H' h => ?_
    · obtain ⟨v7, v8, v9, v10, cs', rfl, sh, hMm, hCc, e1, e0⟩ := h
      rw [show (1 : Int) + (i : Nat) = ((i + 1 : Nat) : Int) by omega]
      have h1len : 1 ≤ ps.length := by omega
      have e1 := e1 h1len
      subst e1
      obtain ⟨hp, hpm⟩ := par_lt ok hi
      have hpar : par ps (i + 1 - 1) = par ps i := by rw [Nat.add_sub_cancel]
      generalize hpn : par ps i = pn at hp hpm hpar
      have hpl : pn < ps.length + 1 := by omega
      obtain ⟨q, hqq⟩ : ∃ q, qs[i]? = some q := ⟨_, List.getElem?_eq_getElem (by omega)⟩
      obtain ⟨x, hx⟩ : ∃ x, f[i + 1]? = some x := ⟨_, List.getElem?_eq_getElem (by rw [hI.len]; omega)⟩
      have hqb := pw_ok ok (u := i + 1) (by omega) (by omega)
      have epw := pw_of hqq
      rw [epw] at hqb
      have eht := ht_of hx
      have px := hI.pos _ _ hx
      have hbig : x ≤ 10 ^ 100 := by
        have e1 : (31 : Int) ^ (ps.length + 1 - (i + 1)) ≤ 31 ^ 60 := pow31_le (by omega)
        have e2 : (31 : Int) ^ 60 ≤ 10 ^ 100 := by decide +kernel
        omega
      have hqx0 : 0 ≤ q * x := Int.mul_nonneg (by omega) (by omega)
      have hqx : q * x ≤ 10 ^ 150 := by
        have m1 : q * x ≤ 31 * 10 ^ 100 := Int.mul_le_mul hqb.2 hbig (by omega) (by decide)
        have m2 : (31 : Int) * 10 ^ 100 ≤ 10 ^ 150 := by decide +kernel
        omega
      obtain ⟨c, hc⟩ : ∃ c, mn ps qs f 0 = some c := by
        cases e : mn ps qs f 0 with
        | none => exact absurd e (main0 ok hI h1len)
        | some c => exact ⟨c, rfl⟩
      have haa := (s1.trans sh) _ _ ha
      have hbb := (s1.trans sh) _ _ hb
      have hGG := sh _ _ hG
      have ep : pathsTo ps (mainL ps qs f) (i + 1) = pathsTo ps (mainL ps qs f) i ++ (if (pn : Int) = 0 ∨ (mainL ps qs f)[pn]? ≠ some (some (i + 1)) then [pn :: down (mainL ps qs f) ((mainL ps qs f).length - (i + 1)) (i + 1)] else []) := by
        show pathsTo ps (mainL ps qs f) i ++ (match ps[i]? with | some p => _ | none => _) = _
        rw [hp]
        show _ ++ (if (pn : Int) = 0 ∨ (mainL ps qs f)[(pn : Int).toNat]? ≠ _ then [(pn : Int).toNat :: _] else _) = _
        rw [Int.toNat_natCast]
      have hcond : ((pn : Int) = 0 ∨ nZ (mn ps qs f pn) ≠ ((i + 1 : Nat) : Int)) ↔ ((pn : Int) = 0 ∨ (mainL ps qs f)[pn]? ≠ some (some (i + 1))) := by
        rw [mainL_at hpl]
        refine or_congr Iff.rfl (not_congr ?_)
        show nZ (mainOf ps qs f pn ps.length) = _ ↔ _
        cases e : mainOf ps qs f pn ps.length with
        | none => exact ⟨fun z => by have z : (0 : Int) = ((i + 1 : Nat) : Int) := z; omega, fun z => by cases z⟩
        | some d => exact ⟨fun z => by have z : ((d : Nat) : Int) = ((i + 1 : Nat) : Int) := z; rw [show d = i + 1 by omega], fun z => by cases z; rfl⟩
      have hzero : nZ (mn ps qs f 0) = (c : Nat) := by rw [hc]; rfl
      have hat : ∀ v, v < ps.length + 1 → (mainZ ps qs f ps.length)[v]? = some (nZ (mn ps qs f v)) := fun v hv => mainZ_at hv
      refine ⟨_, rfl, _, rfl, _, _, rfl, rfl, a, _, _, _, rfl, rfl, SqL.of haa, at_of (j := i) (by omega) (at_ints hp), ?_⟩
      refine ⟨fun b Hx => H' = Hx ∧ (b = true ↔ ((pn : Int) = 0 ∨ (mainL ps qs f)[pn]? ≠ some (some (i + 1)))), ?_, ?_⟩
      · refine ⟨_, rfl, rfl, _, rfl, ifI (fun z => ?_) fun z => ?_⟩
        · exact ⟨rfl, ⟨fun _ => .inl z, fun _ => rfl⟩⟩
        · refine ⟨_, rfl, _, rfl, M, _, _, _, rfl, rfl, SqL.of hMm, atI_nat (at_ints (hat pn hpl)), _, rfl, rfl, _, rfl, rfl, ?_⟩
          rw [Bool.not_eq_true', decide_eq_false_iff_not]
          exact ⟨fun z2 => hcond.mp (.inr fun z3 => z2 (by rw [z3])), fun z3 z4 => (hcond.mpr z3).elim z fun z5 => z5 (V.int.inj z4)⟩
      rintro bb _ ⟨rfl, hbb1⟩
      cases bb with
      | false =>
        refine iteF ?_
        refine ⟨_, _, _, _, _, rfl, sh, hMm, hCc, fun _ => ?_, fun z => by omega⟩
        rw [ep, if_neg (fun z => by cases hbb1.mpr z), List.append_nil]
      | true =>
        have hst := hbb1.mp rfl
        refine iteT ?_
        rw [if_pos hst, mainL_len] at ep
        obtain ⟨ini, lf, ed, hlf, ew⟩ := wT_snoc ok hI n (pathsTo ps (mainL ps qs f) i) (p := pn) (s := i + 1) (by omega) (by omega)
        have elv := leaf_val ok hI n hc (s := i + 1) (p := pn) (by omega) (by omega) hpar (hst.imp (fun z => by omega) id)
        have i1 := (down_sum ok hI (ps.length + 1 - (i + 1)) (i + 1) (by omega) (Nat.le_refl _)).1
        rw [epw, eht] at i1
        have elast := itN_last (f := f) ok (ps.length + 1 - (i + 1)) (i + 1) (by omega) (Nat.le_refl _) ini lf ps.length ed (by omega)
        refine ⟨_, rfl, ?_⟩
        refine ⟨_, rfl, a, _, rfl, .inl (SqL.of haa), _, rfl, by simp <;> omega, by simp <;> omega, ?_⟩
        rw [show ((((ps.map V.int).length : Nat) : Int)).toNat = ps.length by simp]
        refine for_range (lo := 0) (n := ps.length) (fun j σ Hx => ∃ v10 : Option V, σ = [some (.ref a), some (.ref b), some (.int n), some (.ref G), some (.ref M), v5, some (.ref C), some (.int ((i + 1 : Nat) : Int)), some (.int (pn : Nat)), some (.int (itN ps qs f j (i + 1) : Nat)), v10] ∧ Hx = H')
          ⟨v10, rfl, rfl⟩ (fun j σ Hx hj h => ?_) fun σ Hx h => ?_
        · obtain ⟨v10, rfl, rfl⟩ := h
          have hle := itN_le (f := f) ok (v := i + 1) (by omega) j
          have hat1 := hat (itN ps qs f j (i + 1)) (by omega)
          refine ⟨_, rfl, _, rfl, M, _, _, _, rfl, rfl, SqL.of hMm, atI_nat (at_ints hat1), _, _, rfl, rfl, _, rfl, ?_⟩
          rw [itN_succ]
          cases e : mn ps qs f (itN ps qs f j (i + 1)) with
          | none =>
            refine ifD (fun z => absurd z (by show ¬ (0 : Int) < (0 : Int); omega)) fun _ => ?_
            refine ⟨some (.int (0 + (j : Nat))), ?_, rfl⟩
            unfold nxt
            rw [e]
            rfl
          | some d =>
            have hd := (mn_up ok e).1
            rw [e] at hat1
            refine ifD (fun _ => ?_) fun z => absurd (show (0 : Int) < ((d : Nat) : Int) by omega) z
            refine ⟨_, rfl, _, rfl, M, _, _, _, rfl, rfl, SqL.of hMm, atI_nat (at_ints hat1), some (.int (0 + (j : Nat))), ?_, rfl⟩
            unfold nxt
            rw [e]
            rfl
        obtain ⟨v10, rfl, rfl⟩ := h
        rw [elast]
        refine ⟨_, rfl, _, rfl, _, _, rfl, rfl, b, _, _, _, rfl, rfl, SqL.of hbb, at_of (j := i) (by omega) (at_ints hqq), _, rfl, _, rfl, G, _, _, _, rfl, rfl, SqL.of hGG, atI_nat (at_ints hx), _, _, rfl, rfl, cmul_small (abs_small (by omega) (by omega)) (abs_small (by omega) (by omega)), _, _, rfl, rfl, ?_⟩
        refine ⟨_, rfl, _, rfl, C, _, _, lf, rfl, rfl, hCc, ixN_of rfl (by rw [List.length_map, wT_len]; omega), ?_⟩
        have sh2 : Same H1 (upd Hx C (.lst (((wT ps qs f n (pathsTo ps (mainL ps qs f) i)).map V.int).set lf (.int (q * x - 1))))) := smM sh fC
        have hC2 : upd Hx C (.lst (((wT ps qs f n (pathsTo ps (mainL ps qs f) i)).map V.int).set lf (.int (q * x - 1)))) C = some (.lst (((wT ps qs f n (pathsTo ps (mainL ps qs f) i)).set lf (q * x - 1)).map V.int)) := by rw [upd_same, List.map_set]
        have hM2 : upd Hx C (.lst (((wT ps qs f n (pathsTo ps (mainL ps qs f) i)).map V.int).set lf (.int (q * x - 1)))) M = some (.lst ((mainZ ps qs f ps.length).map V.int)) := by rw [upd_ne nMC]; exact hMm
        generalize upd Hx C (.lst (((wT ps qs f n (pathsTo ps (mainL ps qs f) i)).map V.int).set lf (.int (q * x - 1)))) = H8 at sh2 hC2 hM2 ⊢
        refine ⟨fun b Hx => H8 = Hx ∧ (b = true ↔ i + 1 = c), ?_, ?_⟩
        · have hci : i + 1 = c → (pn : Int) = 0 := fun z => by
            have := (mn_up ok hc).2.2
            rw [← z, hpar] at this
            omega
          refine ⟨_, rfl, rfl, _, rfl, ifI (fun z => ?_) fun z => ?_⟩
          · refine ⟨_, rfl, M, _, _, _, rfl, rfl, SqL.of hM2, at_of (j := 0) rfl (at_ints (hat 0 (by omega))), _, rfl, rfl, _, rfl, rfl, ?_⟩
            rw [decide_eq_true_eq, hzero]
            exact ⟨fun z2 => by have := V.int.inj z2; omega, fun z3 => by rw [z3]⟩
          · exact ⟨rfl, ⟨fun z3 => (by cases z3), fun z3 => absurd (hci z3) z⟩⟩
        rintro bb _ ⟨rfl, hb2⟩
        cases bb with
        | true =>
          refine iteT ?_
          refine ⟨_, rfl, _, rfl, _, _, rfl, rfl, b, _, _, _, rfl, rfl, SqL.of (((s1.trans sh2)) _ _ hb), at_of (j := i) (by omega) (at_ints hqq), _, rfl, _, rfl, G, _, _, _, rfl, rfl, SqL.of (sh2 _ _ hG), atI_nat (at_ints hx), _, _, rfl, rfl, cmul_small (abs_small (by omega) (by omega)) (abs_small (by omega) (by omega)), _, rfl, _, _, rfl, rfl, cmul_small (abs_small (by omega) (by omega)) (abs_small (by omega) (by omega)), _, _, rfl, rfl, ?_⟩
          refine ⟨_, rfl, _, rfl, C, _, _, lf, rfl, rfl, hC2, ixN_of rfl (by rw [List.length_map, List.length_set, wT_len]; omega), ?_⟩
          refine ⟨some (.int ((i + 1 : Nat) : Int)), some (.int (pn : Nat)), some (.int (lf : Nat)), v10, wT ps qs f n (pathsTo ps (mainL ps qs f) (i + 1)), rfl, smM sh2 fC, by rw [upd_ne nMC]; exact hM2, ?_, fun _ => rfl, fun z => by omega⟩
          rw [upd_same, ep, ew, elv, i1, if_pos (hb2.mp rfl), List.map_set, List.map_set, List.set_set]
        | false =>
          refine iteF ?_
          refine ⟨some (.int ((i + 1 : Nat) : Int)), some (.int (pn : Nat)), some (.int (lf : Nat)), v10, wT ps qs f n (pathsTo ps (mainL ps qs f) (i + 1)), rfl, sh2, hM2, ?_, fun _ => rfl, fun z => by omega⟩
          rw [hC2, ep, ew, elv, i1, if_neg (fun z => by cases hb2.mpr z), Int.mul_one]
    · obtain ⟨v7, v8, v9, v10, cs', rfl, sh, hMm, hCc, e1, e0⟩ := h
      have ecs : cs' = worst ps qs f n := by
        by_cases c0 : ps.length = 0
        · exact e0 c0
        · rw [e1 (by omega)]
          exact wT_all ok hI n (by omega)
      subst ecs
      exact ⟨_, rfl, k C H' f (s1.trans sh) (s1.free fC) hI hCc⟩
end
end K14
set_option maxRecDepth 100000
set_option maxHeartbeats 4000000
namespace K14
open PySem PySem.Spec PyProof.Rows L2 SI
local macro_rules | `(tactic| walk_at "lk") => `(tactic| first | exact lk_hit | exact lk_nil | (refine lk_next (by decide +kernel) ?_; walk_at "lk"))
theorem sum_set {v : Nat} {y x : Int} : ∀ (l : List Int), l[v]? = some x → (l.set v y).sum = l.sum + (y - x) := by
  induction v with
  | zero =>
    intro l h
    cases l with
    | nil => cases h
    | cons a r =>
      cases h
      show (y :: r).sum = _
      rw [List.sum_cons, List.sum_cons]
      omega
  | succ v ih =>
    intro l h
    cases l with
    | nil => cases h
    | cons a r =>
      show (a :: r.set v y).sum = _
      rw [List.sum_cons, List.sum_cons, ih r h]
      omega
theorem nn_set {l : List Int} (h : ∀ x ∈ l, 0 ≤ x) {v : Nat} {y : Int} (hy : 0 ≤ y) : ∀ x ∈ l.set v y, 0 ≤ x := fun x hx => by
  rcases List.mem_or_eq_of_mem_set hx with hx | rfl
  · exact h x hx
  · exact hy
theorem at_some {l : List Int} {v : Nat} (h : v < l.length) : ∃ x, l[v]? = some x := ⟨_, List.getElem?_eq_getElem h⟩
theorem call_isXTS {X : Cx} {a : Addr} {oe : Obj} {cls : Value} {d : Option Addr} {pn : List (Addr × Obj)} (EK : ErrK X.K) (hz : Zc cls d oe) (hf : ∃ vs, oe.data = .fields vs) : CallR (X.suite a ((a, oe) :: pn)) (.builtin "isinstance") (rIsXT X.K a cls d) :=
  call_isXT (X := X.suite a ((a, oe) :: pn)) EK List.mem_cons_self hz hf
theorem paired2 {α β : Type} {R : α → β → Prop} {a b : α} {x y : β} (h1 : R a x) (h2 : R b y) : Paired R [a, b] [x, y] := .cons h1 (.cons h2 .nil)
theorem kit2 {K : PySem.W.Frag} {t a b : Value} (h1 : PySem.W.kitOne K t a = some false) (h2 : PySem.W.kitOne K t b = some false) : PySem.W.kitAny K t [a, b] = some false :=
  kitAny_cons h1 (fun _ => kitAny_cons h2 (fun _ => kitAny_nil) fun z => nomatch z) fun z => nomatch z
def spSpr : Sp := fun vs H Q _ => ∃ (p : Addr) (n tot : Int) (b : Nat), vs = [.ref p, .int n, .int tot] ∧ PoolB H p b ∧ b ≤ 10 ^ 6 ∧ 1 ≤ n ∧ n ≤ 60 ∧ 0 ≤ tot ∧ tot ≤ 10 ^ 120 ∧
  ∀ (q : Addr) (ns : List Int) H', But p H H' → PoolB H' p (b + 100) → H q = none → H' q = some (.lst (ns.map V.int)) → (ns.length : Int) = n → (∀ x ∈ ns, 0 ≤ x) → ns.sum = tot → Q (.ref q) H'
def spNear : Sp := fun vs H Q _ => ∃ (p c : Addr) (cs : List Int) (b : Nat), vs = [.ref p, .ref c] ∧ PoolB H p b ∧ b ≤ 10 ^ 6 ∧ c ≠ p ∧ H c = some (.lst (cs.map V.int)) ∧ 1 ≤ cs.length ∧ cs.length ≤ 60 ∧ (∀ x ∈ cs, 0 ≤ x) ∧
  ∀ (q : Addr) (ns : List Int) H', But p H H' → PoolB H' p (b + 100) → H q = none → H' q = some (.lst (ns.map V.int)) → ns.length = cs.length → (∀ x ∈ ns, 0 ≤ x) → ns.sum = cs.sum + 1 → Q (.ref q) H'
def spTry (C : Addr) : Sp := fun vs H Q _ => ∃ (t : Addr) (n : Int) (ps qs : List Int), vs = [.ref t, .int n] ∧ TreeAt C H t ps qs ∧ okT ps qs ∧ (n < 1 ∨ 1000000 < n) ∧ ∀ q H', Same H H' → H' q = some (.tup [.str "BadCount", .str "many", .int n]) → Q (.ref q) H'
def spIsW (C : Addr) : Sp := fun vs H Q _ => ∃ (p c : Addr) (ns : List Int), vs = [.ref p, .ref c] ∧ PebAt C H p ns ∧ H c = some (.lst (ns.map V.int)) ∧ ns.length ≤ 64 ∧ ∀ H', Same H H' → Q (.bl true) H'
def spBrs (C : Addr) : Sp := fun vs H Q _ => ∃ (t a b c : Addr) (ps qs ns : List Int) (m : Int), vs = [.ref t, .ref a, .ref b, .ref c, .int m] ∧ TreeAt C H t ps qs ∧ okT ps qs ∧ H a = some (.lst (ps.map V.int)) ∧ H b = some (.lst (qs.map V.int)) ∧ H c = some (.lst (ns.map V.int)) ∧ ns.length = ps.length + 1 ∧ okP ns ∧
  m ≤ (pushN ps qs ps.length ns).getD 0 0 ∧ ∀ H', Same H H' → Q (.bl true) H'
section
variable {P : Program} {w : World} {K : PySem.W.Frag} {mg : Str → Option Value} {base : Heap} {Ad1 Ad2 Ad3 Ad4 Ad5 Ad6 Ad9 Ad10 Ad11 Ad12 : Addr}
theorem scLSpread : FnScope ["pool", "nodes", "total", "counts", "left", "turn", "node", "pick", "share"] ["pool", "nodes", "total"] (defScope sLSpread) := ⟨rfl, rfl, rfl, by decide +kernel, rfl, by decide +kernel, by decide +kernel⟩
theorem ok_LSpread (T : Txt P w K mg base Ad1 Ad2 Ad3 Ad4 Ad5 Ad6 Ad9 Ad10 Ad11 Ad12) : Cl P w K mg base 2 "_law_spread" spSpr [] := by
  have c_LDraw := ok_LDraw T
  refine cl_of T.d__law_spread scLSpread (fun vs H Q E h => ?_) fun f cdv A outer s H vs Q E hr h => ?_
  · obtain ⟨p, n, tot, b, rfl, _⟩ := h
    rfl
  · obtain ⟨p, n, tot, b, rfl, hp, hb, n0, n1, t0, t1, k⟩ := h
    refine ⟨_, (pss_cons (ps_set (i := 3) scLSpread.nd rfl (by first | exact Or.inl rfl | exact Or.inr rfl) (pe_op op_rep (pe_lst (pa_cons pe_int pa_nil)) (pv 1)))
  (pss_cons (ps_set (i := 4) scLSpread.nd rfl (by first | exact Or.inl rfl | exact Or.inr rfl) (pv 2))
  (pss_cons (ps_for (passes_of rfl) rfl (pi_range1 (by rfl) T.b_range (pa_cons (pe_callB (call_min2 rfl) (by rfl) T.b_min (by decide +kernel) (pa_cons (pv 1) (pa_cons pe_int pa_nil))) pa_nil)) (pg_name (i := 5) scLSpread.nd rfl (by first | exact Or.inl rfl | exact Or.inr rfl))
    (pss_cons (ps_set (i := 6) scLSpread.nd rfl (by first | exact Or.inl rfl | exact Or.inr rfl) (pe_c c_LDraw hr (by decide) rfl (pa_cons (pv 0) (pa_cons (pv 1) pa_nil))))
    (pss_cons (ps_set (i := 7) scLSpread.nd rfl (by first | exact Or.inl rfl | exact Or.inr rfl) (pe_c c_LDraw hr (by decide) rfl (pa_cons (pv 0) (pa_cons pe_int pa_nil))))
    (pss_cons (ps_set (i := 8) scLSpread.nd rfl (by first | exact Or.inl rfl | exact Or.inr rfl) pe_int)
    (C8.pss_cut (ps_if (pt_cmpR op_eq (pv 7) pe_int (nomark _))
      (pss_one (ps_set (i := 8) scLSpread.nd rfl (by first | exact Or.inl rfl | exact Or.inr rfl) (pe_op op_fdivW (pv 4) pe_int)))
      (pss_one (ps_if (pt_cmpR op_eq (pv 7) pe_int (nomark _))
        (pss_one (ps_set (i := 8) scLSpread.nd rfl (by first | exact Or.inl rfl | exact Or.inr rfl) (pe_op op_fdivW (pv 4) pe_int)))
        (pss_one (ps_if (pt_cmpR op_eq (pv 7) pe_int (nomark _))
          (pss_one (ps_set (i := 8) scLSpread.nd rfl (by first | exact Or.inl rfl | exact Or.inr rfl) (pe_callB (call_min2 rfl) (by rfl) T.b_min (by decide +kernel) (pa_cons (pv 4) (pa_cons (pe_c c_LDraw hr (by decide) rfl (pa_cons (pv 0) (pa_cons pe_int pa_nil))) pa_nil)))))
          (pss_one (ps_if (pt_cmpR op_eq (pv 7) pe_int (nomark _))
            (pss_one (ps_set (i := 8) scLSpread.nd rfl (by first | exact Or.inl rfl | exact Or.inr rfl) (pe_op op_sub (pv 4) (pe_op op_fdivW (pv 4) pe_int))))
            (pss_one (ps_if (pt_cmpR op_eq (pv 7) pe_int (nomark _))
              (pss_one (ps_set (i := 8) scLSpread.nd rfl (by first | exact Or.inl rfl | exact Or.inr rfl) (pe_c c_LDraw hr (by decide) rfl (pa_cons (pv 0) (pa_cons (pe_op op_add (pv 4) pe_int) pa_nil)))))
              pss_nil)))))))))
    (pss_cons (ps_asg (pe_op op_add (pe_ix ix_list (pv 3) (pv 6) (fun _ _ => rfl)) (pv 8)) (pg_sub (pv 3) (pv 6) set_list))
    (pss_one (ps_set (i := 4) scLSpread.nd rfl (by first | exact Or.inl rfl | exact Or.inr rfl) (pe_op op_sub (pv 4) (pv 8))))))))))
  (pss_cons (ps_set (i := 6) scLSpread.nd rfl (by first | exact Or.inl rfl | exact Or.inr rfl) (pe_c c_LDraw hr (by decide) rfl (pa_cons (pv 0) (pa_cons (pv 1) pa_nil))))
  (pss_cons (ps_asg (pe_op op_add (pe_ix ix_list (pv 3) (pv 6) (fun _ _ => rfl)) (pv 4)) (pg_sub (pv 3) (pv 6) set_list))
  (pss_one (ps_ret (pv 3)))))))), ?_⟩
    have hb6 : b ≤ 1000000 := hb
    have G : ∀ {c : Nat}, c ≤ b + 1000 → c ≤ 10 ^ 100 := fun h => big6 (by show _ ≤ 10000000; omega)
    have N : ∀ {n : Int}, n ≤ 1000 → n ≤ 10 ^ 130 := fun h => Int.le_trans h (by decide +kernel)
    have N2 : ∀ {n : Int}, n ≤ 10 ^ 120 + 1 → n ≤ 10 ^ 130 := fun h => Int.le_trans h (by decide +kernel)
    refine ⟨by show 1 ≤ sizeLine; decide, fun z1 h1 => ?_⟩
    have b1 : But p H (upd H z1 (.lst [.int 0])) := But.of (sm0 h1)
    have p1 := hp.new (o := .lst [.int 0]) h1
    refine ⟨_, rfl, z1, n, _, rfl, rfl, upd_same, by omega, by omega, sz_small (by simp; omega), fun F hF => ?_⟩
    rw [rep_one]
    have nF := p1.ne hF
    have fF := b1.free nF hF
    have b2 : But p H (upd (upd H z1 (.lst [.int 0])) F (.lst (List.replicate n.toNat (.int 0)))) := b1.trans (But.of (sm0 hF))
    have p2 := p1.new (o := .lst (List.replicate n.toNat (.int 0))) hF
    have hF2 : upd (upd H z1 (.lst [.int 0])) F (.lst (List.replicate n.toNat (.int 0))) F = some (.lst ((List.replicate n.toNat (0 : Int)).map V.int)) := by rw [upd_same, List.map_replicate]
    generalize upd (upd H z1 (.lst [.int 0])) F (.lst (List.replicate n.toNat (.int 0))) = H2 at b2 p2 hF2 ⊢
    have put : ∀ {H' : Hp} {c : Nat} {o : HO}, But p H H' → PoolB H' p c → But p H (upd H' F o) ∧ PoolB (upd H' F o) p c := fun bH pH => ⟨fun x o nx e => by rw [upd_ne (ne_of_none e fF)]; exact bH x o nx e, pH.put nF⟩
    refine ⟨_, rfl, ?_⟩
    have h12 : (if (12 : Int) < n then 12 else n) ≤ 12 := by split <;> omega
    have h120 : 0 ≤ (if (12 : Int) < n then 12 else n) := by split <;> omega
    refine ⟨_, rfl, _, _, rfl, _, rfl, by omega, by omega, ?_⟩
    refine for_range (lo := 0) (n := (if (12 : Int) < n then 12 else n).toNat) (fun i σ H' => ∃ (v5 v6 v7 v8 : Option V) (left : Int) (ns : List Int), σ = [some (.ref p), some (.int n), some (.int tot), some (.ref F), some (.int left), v5, v6, v7, v8] ∧ But p H H' ∧ PoolB H' p (b + 3 * i) ∧ H' F = some (.lst (ns.map V.int)) ∧ (ns.length : Int) = n ∧ (∀ x ∈ ns, 0 ≤ x) ∧ 0 ≤ left ∧ ns.sum + left = tot)
      ⟨none, none, none, none, tot, _, rfl, b2, p2, hF2, by simp; omega, fun x hx => by rw [List.eq_of_mem_replicate hx]; exact Int.le_refl _, t0, ?_⟩ (fun i σ H' hi h => ?_) fun σ H' h => ?_
    · have e : (List.replicate n.toNat (0 : Int)).sum = 0 := by
        induction n.toNat with
        | zero => rfl
        | succ j ih => rw [List.replicate_succ, List.sum_cons, ih]; rfl
      rw [e]; omega
    · obtain ⟨v5, v6, v7, v8, left, ns, rfl, bH, pH, hC, hl, hnn, l0, hsum⟩ := h
      have hi12 : i < 12 := by omega
      have hs := (le_sum ns hnn).1
      refine ⟨_, rfl, _, rfl, draw_of pH (G (by omega)) (by omega) (N (by omega)) fun d H3 b3 p3 d0 d1 => ?_⟩
      obtain ⟨dn, rfl⟩ : ∃ dn : Nat, d = (dn : Int) := ⟨d.toNat, by omega⟩
      refine ⟨_, rfl, draw_of p3 (G (by omega)) (by decide) (N (by decide)) fun pick H4 b4 p4 _ _ => ?_⟩
      have bH4 := (bH.trans b3).trans b4
      have hC4 := b4 _ _ nF (b3 _ _ nF hC)
      refine ⟨fun σ' Hx => ∃ sh : Int, 0 ≤ sh ∧ sh ≤ left ∧ σ' = [some (.ref p), some (.int n), some (.int tot), some (.ref F), some (.int left), some (.int (0 + (i : Nat))), some (.int (dn : Nat)), some (.int pick), some (.int sh)] ∧ But p H Hx ∧ PoolB Hx p (b + 3 * (i + 1)) ∧ Hx F = some (.lst (ns.map V.int)), ?_, ?_⟩
      · refine ⟨_, rfl, rfl, _, rfl, ifI (fun c => ?_) fun c => ?_⟩
        · exact ⟨_, rfl, _, _, rfl, rfl, cdiv_small (by decide) (by decide +kernel), left / 2, by omega, by omega, rfl, bH4, p4.up (by omega), hC4⟩
        refine ⟨_, rfl, rfl, _, rfl, ifI (fun c => ?_) fun c => ?_⟩
        · exact ⟨_, rfl, _, _, rfl, rfl, cdiv_small (by decide) (by decide +kernel), left / 3, by omega, by omega, rfl, bH4, p4.up (by omega), hC4⟩
        refine ⟨_, rfl, rfl, _, rfl, ifI (fun c => ?_) fun c => ?_⟩
        · refine ⟨_, rfl, _, rfl, draw_of p4 (G (by omega)) (by decide) (N (by decide)) fun e H5 b5 p5 e0 e1 => ?_⟩
          refine ⟨_, _, rfl, (if e < left then e else left), ?_, ?_, rfl, bH4.trans b5, p5.up (by omega), b5 _ _ nF hC4⟩
          · split <;> omega
          · split <;> omega
        refine ⟨_, rfl, rfl, _, rfl, ifI (fun c => ?_) fun c => ?_⟩
        · exact ⟨_, rfl, _, rfl, _, _, rfl, rfl, cdiv_small (by decide) (by decide +kernel), _, _, rfl, rfl, left - left / 5, by omega, by omega, rfl, bH4, p4.up (by omega), hC4⟩
        refine ⟨_, rfl, rfl, _, rfl, ifI (fun c => ?_) fun c => ?_⟩
        · refine ⟨_, rfl, _, rfl, _, _, rfl, rfl, draw_of p4 (G (by omega)) (by omega) (N2 (by omega)) fun e H5 b5 p5 e0 e1 => ?_⟩
          exact ⟨e, e0, by omega, rfl, bH4.trans b5, p5.up (by omega), b5 _ _ nF hC4⟩
        · exact ⟨0, by omega, l0, rfl, bH4, p4.up (by omega), hC4⟩
      rintro _ H5 ⟨sh, sh0, sh1, rfl, bH5, p5, hC5⟩
      obtain ⟨x, hx⟩ := at_some (l := ns) (v := dn) (by omega)
      have hx0 := hnn x (List.mem_of_getElem? hx)
      refine ⟨_, rfl, _, rfl, F, _, _, _, rfl, rfl, SqL.of hC5, atI_nat (at_ints hx), _, rfl, _, _, rfl, rfl, ?_⟩
      refine ⟨_, rfl, _, rfl, F, _, _, dn, rfl, rfl, hC5, ixN_of rfl (by rw [List.length_map]; omega), ?_⟩
      refine ⟨_, rfl, _, rfl, _, _, rfl, rfl, ?_⟩
      obtain ⟨q1, q2⟩ := put (o := .lst ((ns.map V.int).set dn (.int (x + sh)))) bH5 p5
      refine ⟨some (.int (0 + (i : Nat))), some (.int (dn : Nat)), some (.int pick), some (.int sh), left - sh, ns.set dn (x + sh), rfl, q1, q2, by rw [upd_same, List.map_set], by rw [List.length_set]; exact hl, nn_set hnn (by omega), by omega, ?_⟩
      rw [sum_set ns hx]
      omega
    · obtain ⟨v5, v6, v7, v8, left, ns, rfl, bH, pH, hC, hl, hnn, l0, hsum⟩ := h
      refine ⟨_, rfl, _, rfl, draw_of pH (G (by omega)) (by omega) (N (by omega)) fun d H3 b3 p3 d0 d1 => ?_⟩
      obtain ⟨dn, rfl⟩ : ∃ dn : Nat, d = (dn : Int) := ⟨d.toNat, by omega⟩
      have hC3 := b3 _ _ nF hC
      obtain ⟨x, hx⟩ := at_some (l := ns) (v := dn) (by omega)
      have hx0 := hnn x (List.mem_of_getElem? hx)
      refine ⟨_, rfl, _, rfl, F, _, _, _, rfl, rfl, SqL.of hC3, atI_nat (at_ints hx), _, rfl, _, _, rfl, rfl, ?_⟩
      refine ⟨_, rfl, _, rfl, F, _, _, dn, rfl, rfl, hC3, ixN_of rfl (by rw [List.length_map]; omega), ?_⟩
      obtain ⟨q1, q2⟩ := put (o := .lst ((ns.map V.int).set dn (.int (x + left)))) (bH.trans b3) p3
      refine ⟨_, rfl, k F (ns.set dn (x + left)) _ q1 (q2.up (by omega)) fF (by rw [upd_same, List.map_set]) (by rw [List.length_set]; exact hl) (nn_set hnn (by omega)) ?_⟩
      rw [sum_set ns hx]
      omega
theorem scLNear : FnScope ["pool", "counts", "row", "turn", "source", "target", "share", "node"] ["pool", "counts"] (defScope sLNear) := ⟨rfl, rfl, rfl, by decide +kernel, rfl, by decide +kernel, by decide +kernel⟩
theorem ok_LNear (T : Txt P w K mg base Ad1 Ad2 Ad3 Ad4 Ad5 Ad6 Ad9 Ad10 Ad11 Ad12) : Cl P w K mg base 2 "_law_near" spNear [] := by
  have c_LDraw := ok_LDraw T
  refine cl_of T.d__law_near scLNear (fun vs H Q E h => ?_) fun f cdv A outer s H vs Q E hr h => ?_
  · obtain ⟨p, c, cs, b, rfl, _⟩ := h
    rfl
  · obtain ⟨p, c, cs, b, rfl, hp, hb, ncp, hc, l0, l1, cnn, k⟩ := h
    refine ⟨_, (pss_cons (ps_set (i := 2) scLNear.nd rfl (by first | exact Or.inl rfl | exact Or.inr rfl) (pe_callTy call_list_of (by rfl) T.b_list (by decide +kernel) (pa_cons (pv 1) pa_nil)))
  (pss_cons (ps_for (passes_of rfl) rfl (pi_range1 (by rfl) T.b_range (pa_cons (pe_c c_LDraw hr (by decide) rfl (pa_cons (pv 0) (pa_cons pe_int pa_nil))) pa_nil)) (pg_name (i := 3) scLNear.nd rfl (by first | exact Or.inl rfl | exact Or.inr rfl))
    (pss_cons (ps_set (i := 4) scLNear.nd rfl (by first | exact Or.inl rfl | exact Or.inr rfl) (pe_c c_LDraw hr (by decide) rfl (pa_cons (pv 0) (pa_cons (pe_callB call_len_seq (by rfl) T.b_len (by decide +kernel) (pa_cons (pv 2) pa_nil)) pa_nil))))
    (pss_cons (ps_set (i := 5) scLNear.nd rfl (by first | exact Or.inl rfl | exact Or.inr rfl) (pe_c c_LDraw hr (by decide) rfl (pa_cons (pv 0) (pa_cons (pe_callB call_len_seq (by rfl) T.b_len (by decide +kernel) (pa_cons (pv 2) pa_nil)) pa_nil))))
    (pss_cons (ps_set (i := 6) scLNear.nd rfl (by first | exact Or.inl rfl | exact Or.inr rfl) (pe_callB (call_min2 rfl) (by rfl) T.b_min (by decide +kernel) (pa_cons (pe_ix ix_list (pv 2) (pv 4) (fun _ _ => rfl)) (pa_cons (pe_op op_add pe_int (pe_c c_LDraw hr (by decide) rfl (pa_cons (pv 0) (pa_cons pe_int pa_nil)))) pa_nil))))
    (pss_cons (ps_asg (pe_op op_sub (pe_ix ix_list (pv 2) (pv 4) (fun _ _ => rfl)) (pv 6)) (pg_sub (pv 2) (pv 4) set_list))
    (pss_one (ps_asg (pe_op op_add (pe_ix ix_list (pv 2) (pv 5) (fun _ _ => rfl)) (pv 6)) (pg_sub (pv 2) (pv 5) set_list))))))))
  (pss_cons (ps_set (i := 7) scLNear.nd rfl (by first | exact Or.inl rfl | exact Or.inr rfl) (pe_c c_LDraw hr (by decide) rfl (pa_cons (pv 0) (pa_cons (pe_callB call_len_seq (by rfl) T.b_len (by decide +kernel) (pa_cons (pv 2) pa_nil)) pa_nil))))
  (pss_cons (ps_asg (pe_op op_add (pe_ix ix_list (pv 2) (pv 7) (fun _ _ => rfl)) pe_int) (pg_sub (pv 2) (pv 7) set_list))
  (pss_one (ps_ret (pv 2))))))), ?_⟩
    have hb6 : b ≤ 1000000 := hb
    have G : ∀ {c : Nat}, c ≤ b + 1000 → c ≤ 10 ^ 100 := fun h => big6 (by show _ ≤ 10000000; omega)
    have N : ∀ {n : Int}, n ≤ 1000 → n ≤ 10 ^ 130 := fun h => Int.le_trans h (by decide +kernel)
    refine ⟨_, rfl, c, _, rfl, .inl (SqL.of hc), fun F hF => ?_⟩
    have nF := hp.ne hF
    have b1 : But p H (upd H F (.lst (cs.map V.int))) := But.of (sm0 hF)
    have p1 := hp.new (o := .lst (cs.map V.int)) hF
    have hF1 : upd H F (.lst (cs.map V.int)) F = some (.lst (cs.map V.int)) := upd_same
    generalize upd H F (.lst (cs.map V.int)) = H1 at b1 p1 hF1 ⊢
    have put : ∀ {H' : Hp} {c : Nat} {o : HO}, But p H H' → PoolB H' p c → But p H (upd H' F o) ∧ PoolB (upd H' F o) p c := fun bH pH => ⟨fun x o nx e => by rw [upd_ne (ne_of_none e hF)]; exact bH x o nx e, pH.put nF⟩
    refine ⟨_, rfl, draw_of p1 (G (by omega)) (by decide) (N (by decide)) fun tn H2 b2 p2 tn0 tn1 => ?_⟩
    refine ⟨_, rfl, by omega, by omega, ?_⟩
    refine for_range (lo := 0) (n := tn.toNat) (fun i σ H' => ∃ (v3 v4 v5 v6 : Option V) (ns : List Int), σ = [some (.ref p), some (.ref c), some (.ref F), v3, v4, v5, v6, none] ∧ But p H H' ∧ PoolB H' p (b + 1 + 3 * i) ∧ H' F = some (.lst (ns.map V.int)) ∧ ns.length = cs.length ∧ (∀ x ∈ ns, 0 ≤ x) ∧ ns.sum = cs.sum)
      ⟨none, none, none, none, cs, rfl, b1.trans b2, p2, b2 _ _ nF hF1, rfl, cnn, rfl⟩ (fun i σ H' hi h => ?_) fun σ H' h => ?_
    · obtain ⟨v3, v4, v5, v6, ns, rfl, bH, pH, hC, hl, hnn, hsum⟩ := h
      have eln : (((ns.map V.int).length : Nat) : Int) = (cs.length : Nat) := by rw [List.length_map, hl]
      refine ⟨_, rfl, _, rfl, F, _, rfl, .inl (SqL.of hC), ?_⟩
      rw [eln]
      refine draw_of pH (G (by omega)) (by omega) (N (by omega)) fun d H3 b3 p3 d0 d1 => ?_
      obtain ⟨dn, rfl⟩ : ∃ dn : Nat, d = (dn : Int) := ⟨d.toNat, by omega⟩
      have hC3 := b3 _ _ nF hC
      refine ⟨_, rfl, _, rfl, F, _, rfl, .inl (SqL.of hC3), ?_⟩
      rw [eln]
      refine draw_of p3 (G (by omega)) (by omega) (N (by omega)) fun e H4 b4 p4 e0 e1 => ?_
      obtain ⟨en, rfl⟩ : ∃ dn : Nat, e = (dn : Int) := ⟨e.toNat, by omega⟩
      have hC4 := b4 _ _ nF hC3
      obtain ⟨x, hx⟩ := at_some (l := ns) (v := dn) (by omega)
      have hx0 := hnn x (List.mem_of_getElem? hx)
      refine ⟨_, rfl, _, rfl, F, _, _, _, rfl, rfl, SqL.of hC4, atI_nat (at_ints hx), ?_⟩
      refine ⟨_, rfl, draw_of p4 (G (by omega)) (by decide) (N (by decide)) fun g H5 b5 p5 g0 g1 => ?_⟩
      have hC5 := b5 _ _ nF hC4
      refine ⟨_, _, rfl, rfl, _, _, rfl, ?_⟩
      have hsh : 0 ≤ (if 1 + g < x then 1 + g else x) ∧ (if 1 + g < x then 1 + g else x) ≤ x := by split <;> omega
      generalize (if 1 + g < x then 1 + g else x) = sh at hsh ⊢
      refine ⟨_, rfl, _, rfl, F, _, _, _, rfl, rfl, SqL.of hC5, atI_nat (at_ints hx), _, rfl, _, _, rfl, rfl, ?_⟩
      refine ⟨_, rfl, _, rfl, F, _, _, dn, rfl, rfl, hC5, ixN_of rfl (by rw [List.length_map]; omega), ?_⟩
      have bH5 := ((bH.trans b3).trans b4).trans b5
      obtain ⟨q1, q2⟩ := put (o := .lst ((ns.map V.int).set dn (.int (x - sh)))) bH5 p5
      have hC6 : upd H5 F (.lst ((ns.map V.int).set dn (.int (x - sh)))) F = some (.lst ((ns.set dn (x - sh)).map V.int)) := by rw [upd_same, List.map_set]
      have hs6 := sum_set (y := x - sh) ns hx
      have hn6 := nn_set hnn (v := dn) (y := x - sh) (by omega)
      have hl6 : (ns.set dn (x - sh)).length = cs.length := by rw [List.length_set, hl]
      generalize upd H5 F (.lst ((ns.map V.int).set dn (.int (x - sh)))) = H6 at q1 q2 hC6 ⊢
      generalize ns.set dn (x - sh) = ms at hC6 hs6 hn6 hl6
      obtain ⟨y, hy⟩ := at_some (l := ms) (v := en) (by omega)
      have hy0 := hn6 y (List.mem_of_getElem? hy)
      refine ⟨_, rfl, _, rfl, F, _, _, _, rfl, rfl, SqL.of hC6, atI_nat (at_ints hy), _, rfl, _, _, rfl, rfl, ?_⟩
      refine ⟨_, rfl, _, rfl, F, _, _, en, rfl, rfl, hC6, ixN_of rfl (by rw [List.length_map]; omega), ?_⟩
      obtain ⟨q3, q4⟩ := put (o := .lst ((ms.map V.int).set en (.int (y + sh)))) q1 q2
      refine ⟨some (.int (0 + (i : Nat))), some (.int (dn : Nat)), some (.int (en : Nat)), some (.int sh), ms.set en (y + sh), rfl, q3, q4.up (by omega), by rw [upd_same, List.map_set], by rw [List.length_set, hl6], nn_set hn6 (by omega), ?_⟩
      rw [sum_set ms hy, hs6]
      omega
    · obtain ⟨v3, v4, v5, v6, ns, rfl, bH, pH, hC, hl, hnn, hsum⟩ := h
      have eln : (((ns.map V.int).length : Nat) : Int) = (cs.length : Nat) := by rw [List.length_map, hl]
      refine ⟨_, rfl, _, rfl, F, _, rfl, .inl (SqL.of hC), ?_⟩
      rw [eln]
      refine draw_of pH (G (by omega)) (by omega) (N (by omega)) fun d H3 b3 p3 d0 d1 => ?_
      obtain ⟨dn, rfl⟩ : ∃ dn : Nat, d = (dn : Int) := ⟨d.toNat, by omega⟩
      have hC3 := b3 _ _ nF hC
      obtain ⟨x, hx⟩ := at_some (l := ns) (v := dn) (by omega)
      have hx0 := hnn x (List.mem_of_getElem? hx)
      refine ⟨_, rfl, _, rfl, F, _, _, _, rfl, rfl, SqL.of hC3, atI_nat (at_ints hx), _, _, rfl, rfl, ?_⟩
      refine ⟨_, rfl, _, rfl, F, _, _, dn, rfl, rfl, hC3, ixN_of rfl (by rw [List.length_map]; omega), ?_⟩
      obtain ⟨q1, q2⟩ := put (o := .lst ((ns.map V.int).set dn (.int (x + 1)))) (bH.trans b3) p3
      refine ⟨_, rfl, k F (ns.set dn (x + 1)) _ q1 (q2.up (by omega)) hF (by rw [upd_same, List.map_set]) (by rw [List.length_set]; exact hl) (nn_set hnn (by omega)) ?_⟩
      rw [sum_set ns hx]
      omega
theorem scLIsWorst : FnScope ["told", "counts"] ["told", "counts"] (defScope sLIsWorst) := ⟨rfl, rfl, rfl, by decide +kernel, rfl, by decide +kernel, by decide +kernel⟩
theorem ok_LIsWorst (T : Txt P w K mg base Ad1 Ad2 Ad3 Ad4 Ad5 Ad6 Ad9 Ad10 Ad11 Ad12) : Cl P w K mg base 3 "_law_is_worst" (spIsW Ad12) [] := by
  have c_LSame := ok_LSame T 1
  refine cl_of T.d__law_is_worst scLIsWorst (fun vs H Q E h => ?_) fun f cdv A outer s H vs Q E hr h => ?_
  · obtain ⟨p, c, ns, rfl, _⟩ := h
    rfl
  · obtain ⟨p, c, ns, rfl, hP, hc, hl, k⟩ := h
    refine ⟨_, (pss_cons (ps_if (PW.pt (pw_or (pt_not (pt_val (pe_callB call_isi (by rfl) T.b_isinstance (by decide +kernel) (pa_cons (pv 0) (pa_cons (pe_glob (v := .ref Ad12) rfl T.gPebbles rfl) pa_nil))))) (pw_or1 (pt_not (pt_val (pe_c c_LSame hr (by decide) rfl (pa_cons (pe_fld (pv 0) rfl) (pa_cons (pe_callTy call_tuple_of (by rfl) T.b_tuple (by decide +kernel) (pa_cons (pv 1) pa_nil)) pa_nil))))))))
    (pss_one (ps_ret pe_bl))
    pss_nil)
  (pss_one (ps_ret (pe_and (pe_c c_LSame hr (by decide) rfl (pa_cons (pe_fld (pv 0) rfl) (pa_cons (pe_callB call_len_seq (by rfl) T.b_len (by decide +kernel) (pa_cons (pv 1) pa_nil)) pa_nil))) (pe_one (pe_c c_LSame hr (by decide) rfl (pa_cons (pe_fld (pv 0) rfl) (pa_cons (pe_callB (cr_sum rfl) (by rfl) T.b_sum (by decide +kernel) (pa_cons (pv 1) pa_nil)) pa_nil)))))))), ?_⟩
    obtain ⟨dx, a, hp, ha⟩ := hP
    have l1 : (pebF a (ns.length : Nat) ns.sum).lookup ("counts" : Str) = some (V.ref a) := by walk_at "lk"
    have l2 : (pebF a (ns.length : Nat) ns.sum).lookup ("nodes" : Str) = some (V.int (ns.length : Nat)) := by walk_at "lk"
    have l3 : (pebF a (ns.length : Nat) ns.sum).lookup ("size" : Str) = some (V.int ns.sum) := by walk_at "lk"
    have el : (((ns.map V.int).length : Nat) : Int) = (ns.length : Nat) := by rw [List.length_map]
    refine ⟨_, rfl, _, _, _, _, _, rfl, .own Ad12, .base (.ins hp T.lPebbles T.iPebbles.ca T.iPebbles.cn T.iPebbles.ct T.iPebbles.cm), kit_self, _, rfl, iteF ?_⟩
    refine ⟨_, rfl, p, Ad12, dx, _, _, rfl, hp, T.lPebbles, T.nPebbles_counts, l1, _, rfl, c, _, rfl, .inl ⟨SqL.of hc, fun l hl0 => ?_⟩⟩
    have s1 : Same H (upd H l (.tup (ns.map V.int))) := sm0 hl0
    refine same_of (da_ints (s1 _ _ ha) upd_same (by omega)) ⟨_, rfl, iteF ?_⟩
    refine ⟨_, rfl, p, Ad12, dx, _, _, rfl, s1 _ _ hp, T.lPebbles, T.nPebbles_nodes, l2, _, rfl, c, _, rfl, .inl (SqL.of (s1 _ _ hc)), same_of (by rw [el]; exact .int _ _) ⟨_, rfl, iteT ?_⟩⟩
    refine ⟨_, rfl, p, Ad12, dx, _, _, rfl, s1 _ _ hp, T.lPebbles, T.nPebbles_size, l3, _, rfl, c, _, rfl, SqL.of (s1 _ _ hc), same_of (.int _ _) (k _ s1)⟩
theorem scLTry : FnScope ["tree", "many", "e"] ["tree", "many"] (defScope sLTry) := ⟨rfl, rfl, rfl, by decide +kernel, rfl, by decide +kernel, by decide +kernel⟩
theorem ok_LTry (T : Txt P w K mg base Ad1 Ad2 Ad3 Ad4 Ad5 Ad6 Ad9 Ad10 Ad11 Ad12) : Cl P w K mg base 7 "_law_try" (spTry Ad11) [] := by
  have c_TreeWorst : Cl P w K mg base 6 "tree_worst" (spWorst Ad2 Ad11 Ad12) [] := (ok_TreeWorst T).cl 2 1 (by simp) rfl fun T kV doc pm an cdv ct us its l1 l2 => match us, its, l1, l2 with | [_, _], [_], _, _ => ⟨_, rfl, rfl⟩
  refine cl_of T.d__law_try scLTry (fun vs H Q E h => ?_) fun f cdv A outer s H vs Q E hr h => ?_
  · obtain ⟨t, n, ps, qs, rfl, _⟩ := h
    rfl
  · obtain ⟨t, n, ps, qs, rfl, hT, ok, hn, k⟩ := h
    refine ⟨_, (pss_cons (ps_try_as (i := 2) rfl rfl scLTry.nd rfl rfl ⟨rfl, by decide, Or.inl T.gPebbleError⟩ takes0
    (fun W pn xe tk po => (pss_one (ps_expr (pe_cX tk c_TreeWorst hr (by decide) rfl (pa_cons (pv 0) (pa_cons (pv 1) pa_nil))))))
    (fun a oe cls d pn hz hf => (pss_cons (ps_if (PW.pt (pw_and (pt_val (pe_callB (call_isS T.ek hz hf) (by rfl) T.b_isinstance (by decide +kernel) (pa_cons (pv 2) (pa_cons (pe_glob (v := .ref Ad2) rfl T.gBadCount rfl) pa_nil)))) (pw_and1 (pt_not (pt_val (pe_callB (call_isXTS T.ek hz hf) (by rfl) T.b_isinstance (by decide +kernel) (pa_cons (pv 2) (pa_cons (pe_tup (pa_cons (pe_glob (v := .ref Ad3) rfl T.gNotPebbles rfl) (pa_cons (pe_glob (v := .ref Ad6) rfl T.gWrongWidth rfl) pa_nil))) pa_nil))))))))
      (pss_one (ps_ret (pe_tup (pa_cons pe_str (pa_cons (pe_errS hz hf (pv 2)) (pa_cons (pe_errS hz hf (pv 2)) pa_nil))))))
      pss_nil)
    (pss_one (ps_ret (pe_tup (pa_cons pe_str pa_nil)))))))
  (pss_one (ps_ret (pe_tup (pa_cons pe_str pa_nil))))), ?_⟩
    refine ⟨_, rfl, _, rfl, t, n, ps, qs, rfl, hT, ok, (fun c1 c2 => by omega), fun _ d hd => ?_⟩
    refine ⟨true, T.xBadCount_PebbleError, fun ea e na => ?_, fun z => nomatch z⟩
    have s1 : Same H (upd H d (.xd [("many", .int n), ("what", .str "many")])) := sm0 hd
    have hd1 : upd H d (.xd [("many", .int n), ("what", .str "many")]) d = some (.xd [("many", .int n), ("what", .str "many")]) := upd_same
    generalize upd H d (.xd [("many", .int n), ("what", .str "many")]) = H1 at s1 hd1 e na ⊢
    have tr : ∀ d0, some d = some d0 → ∃ fs, H1 d0 = some (.xd fs) := fun d0 e => by cases e; exact ⟨_, hd1⟩
    refine ⟨_, rfl, Ad2, _, _, true, rfl, T.eBadCount, rfl, .own Ad2, T.tBadCount_BadCount, tr, _, rfl, iteT ?_⟩
    refine ⟨_, rfl, (by show 2 ≤ sizeLine; decide), fun tp htp => ?_⟩
    have hd2 := atN (o := .tup [.ref Ad3, .ref Ad6]) hd1 htp
    have s2 := smN (o := .tup [.ref Ad3, .ref Ad6]) s1 htp
    have tr2 : ∀ d0, some d = some d0 → ∃ fs, upd H1 tp (.tup [.ref Ad3, .ref Ad6]) d0 = some (.xd fs) := fun d0 e => by cases e; exact ⟨_, hd2⟩
    refine ⟨Ad2, tp, _, _, false, rfl, T.eBadCount, rfl, upd_same, paired2 (.own Ad3) (.own Ad6), kit2 T.tBadCount_NotPebbles T.tBadCount_WrongWidth, tr2, _, rfl, iteT ?_⟩
    refine ⟨Ad2, d, rfl, T.eBadCount, T.fBadCount_what, rfl, _, rfl, rfl, _, _, hd2, (by walk_at "lk"), Ad2, d, rfl, T.eBadCount, T.fBadCount_many, rfl, _, rfl, rfl, _, _, hd2, (by walk_at "lk"), (by show 3 ≤ sizeLine; decide), fun r hr1 => ?_⟩
    exact k r _ (smN s2 hr1) upd_same
theorem scLBrings : FnScope ["tree", "parents", "prices", "counts", "least", "own"] ["tree", "parents", "prices", "counts", "least"] (defScope sLBrings) := ⟨rfl, rfl, rfl, by decide +kernel, rfl, by decide +kernel, by decide +kernel⟩
theorem ok_LBrings (T : Txt P w K mg base Ad1 Ad2 Ad3 Ad4 Ad5 Ad6 Ad9 Ad10 Ad11 Ad12) : Cl P w K mg base 6 "_law_brings" (spBrs Ad11) [] := by
  have c_LSame := ok_LSame T 0
  have c_LBrought := ok_LBrought T
  have c_TreeMost := (ok_TreeMost T).cl
  have k_Pebbles := (ok_Pebbles T).mkr
  refine cl_of T.d__law_brings scLBrings (fun vs H Q E h => ?_) fun f cdv A outer s H vs Q E hr h => ?_
  · obtain ⟨t, a, b, c, ps, qs, ns, m, rfl, _⟩ := h
    rfl
  · obtain ⟨t, a, b, c, ps, qs, ns, m, rfl, hT, ok, ha, hb, hc, hl, hP, hm, k⟩ := h
    refine ⟨_, (pss_cons (ps_set (i := 5) scLBrings.nd rfl (by first | exact Or.inl rfl | exact Or.inr rfl) (pe_c c_LBrought hr (by decide) rfl (pa_cons (pv 1) (pa_cons (pv 2) (pa_cons (pv 3) pa_nil)))))
  (pss_one (ps_ret (pe_and (pe_cmpR op_ge (pv 5) (pv 4) (nomark _)) (pe_one (pe_c c_LSame hr (by decide) rfl (pa_cons (pe_c c_TreeMost hr (by decide) rfl (pa_cons (pv 0) (pa_cons (pe_mk k_Pebbles hr (by decide) rfl (pa_cons (pe_callTy call_list_of (by rfl) T.b_list (by decide +kernel) (pa_cons (pv 3) pa_nil)) pa_nil)) pa_nil))) (pa_cons (pv 5) pa_nil)))))))), ?_⟩
    refine ⟨_, rfl, _, rfl, _, rfl, a, b, c, ps, qs, ns, rfl, ha, hb, hc, ok, hl, fun H1 s1 => ?_⟩
    refine ⟨_, rfl, _, rfl, _, _, rfl, rfl, _, rfl, ?_⟩
    rw [show decide (m ≤ (pushN ps qs ps.length ns).getD 0 0) = true from decide_eq_true hm]
    refine iteT ?_
    refine ⟨_, rfl, _, rfl, c, _, rfl, .inl (SqL.of (s1 _ _ hc)), fun l hl0 => ?_⟩
    have s2 : Same H (upd H1 l (.lst (ns.map V.int))) := smN s1 hl0
    have hl1 : upd H1 l (.lst (ns.map V.int)) l = some (.lst (ns.map V.int)) := upd_same
    generalize upd H1 l (.lst (ns.map V.int)) = H2 at s2 hl1 ⊢
    refine fun x dx hx hdx ne => peb_ok hx hdx hP (.inl (SqL.of hl1)) fun H3 s3 hPb => ⟨rfl, ?_⟩
    refine ⟨t, x, ps, qs, ns, rfl, hT.same (s2.trans s3), ok, hPb, hl, fun H4 s4 => ?_⟩
    exact ⟨_, rfl, same_of (.int _ _) (k H4 ((s2.trans s3).trans s4))⟩
end
end K14
set_option maxRecDepth 100000
set_option maxHeartbeats 4000000
namespace K14
open PySem PySem.Spec PyProof.Rows L2 SI
local macro_rules | `(tactic| walk_at "lk") => `(tactic| first | exact lk_hit | exact lk_nil | (refine lk_next (by decide +kernel) ?_; walk_at "lk"))
section
variable {ps qs f : List Int}
theorem more_brings {a b m : Int} (ok : okT ps qs) (hL : LineIs ps qs a b) (hI : IsH ps qs 0 f) (hm : 1 ≤ m) (hm6 : m ≤ 1000000) {v : Nat} {x : Int} (hx : (worst ps qs f m)[v]? = some x) :
    (pushN ps qs ps.length ((worst ps qs f m).set v (x + 1))).getD 0 0 = m := by
  have hv : v < ps.length + 1 := by rw [← worst_len (ps := ps) (qs := qs) (f := f) m]; exact (List.getElem?_eq_some_iff.mp hx).1
  have hnn := fun y hy => (worst_mem (f := f) ok hm hm6 y hy).1
  have hx0 := hnn x (List.mem_of_getElem? hx)
  have hl : ((worst ps qs f m).set v (x + 1)).length = ps.length + 1 := by rw [List.length_set, worst_len]
  have h1 := brings (m := m) ok hL hl (nn_mem (nn_set hnn (by omega))) (by rw [sum_set _ hx, worst_sum ok hL hI m]; omega)
  have h2 := one_push ok ps.length (worst ps qs f m) ((worst ps qs f m).set v (x + 1)) (Nat.le_refl _) (worst_len m) hl (.inr ⟨v, by omega, fun u hu => by
    rw [getD_set (by rw [worst_len]; exact hv)]
    by_cases c : v = u
    · subst c
      rw [if_pos rfl, if_pos rfl, List.getD_eq_getElem?_getD, hx]
      rfl
    · rw [if_neg c, if_neg (Ne.symm c), Int.add_zero]⟩)
  rw [worst_brings ok hI m] at h2
  omega
theorem big_sum {a b m : Int} (ok : okT ps qs) (hL : LineIs ps qs a b) (hI : IsH ps qs 0 f) (hm : 1 ≤ m) (hm6 : m ≤ 1000000) : 1 ≤ a * m + b ∧ a * m + b ≤ 10 ^ 120 := by
  have h1 := worst_sum ok hL hI m
  have h2 := worst_big (f := f) ok hm hm6
  have h3 := (le_sum (worst ps qs f m) fun y hy => (worst_mem (f := f) ok hm hm6 y hy).1).1
  have h4 : (10 : Int) ^ 115 + 1 ≤ 10 ^ 120 := by decide +kernel
  omega
end
def spSure (C : Addr) : Sp := fun vs H Q _ => ∃ (p t a b : Addr) (ps qs : List Int) (n : Int) (bd : Nat), vs = [.ref p, .ref t, .ref a, .ref b, .int n] ∧ PoolB H p bd ∧ bd ≤ 100000 ∧ a ≠ p ∧ b ≠ p ∧ TreeAt C H t ps qs ∧ okT ps qs ∧ H a = some (.lst (ps.map V.int)) ∧ H b = some (.lst (qs.map V.int)) ∧ 1 ≤ n ∧ n ≤ 1000000 ∧
  ∀ H', But p H H' → PoolB H' p (bd + 1000) → Q (.bl true) H'
def spFirst (C : Addr) : Sp := fun vs H Q _ => ∃ (t a b : Addr) (ps qs : List Int), vs = [.ref t, .ref a, .ref b] ∧ TreeAt C H t ps qs ∧ okT ps qs ∧ H a = some (.lst (ps.map V.int)) ∧ H b = some (.lst (qs.map V.int)) ∧ ∀ H', Same H H' → Q (.bl true) H'
section
variable {P : Program} {w : World} {K : PySem.W.Frag} {mg : Str → Option Value} {base : Heap} {Ad1 Ad2 Ad3 Ad4 Ad5 Ad6 Ad9 Ad10 Ad11 Ad12 : Addr}
theorem scLSure : FnScope ["pool", "tree", "parents", "prices", "many", "line_v", "total", "worst", "turn", "more", "node"] ["pool", "tree", "parents", "prices", "many"] (defScope sLSure) := ⟨rfl, rfl, rfl, by decide +kernel, rfl, by decide +kernel, by decide +kernel⟩
theorem ok_LSure (T : Txt P w K mg base Ad1 Ad2 Ad3 Ad4 Ad5 Ad6 Ad9 Ad10 Ad11 Ad12) : Cl P w K mg base 7 "_law_sure" (spSure Ad11) [] := by
  have c_LDraw := ok_LDraw T
  have c_LSame := ok_LSame T 0
  have c_LLineOf := ok_LLineOf T
  have c_LWorstRow := ok_LWorstRow T
  have c_LBrought := ok_LBrought T
  have c_LBrings := ok_LBrings T
  have c_LIsWorst := ok_LIsWorst T
  have c_LNear := ok_LNear T
  have c_LSpread := ok_LSpread T
  have c_TreeEnough : Cl P w K mg base 5 "tree_enough" (spEnough Ad2 Ad11) [] := (ok_TreeEnough T).cl 2 1 (by simp) rfl fun T kV doc pm an cdv ct us its l1 l2 => match us, its, l1, l2 with | [_, _], [_], _, _ => ⟨_, rfl, rfl⟩
  have c_TreeWorst : Cl P w K mg base 6 "tree_worst" (spWorst Ad2 Ad11 Ad12) [] := (ok_TreeWorst T).cl 2 1 (by simp) rfl fun T kV doc pm an cdv ct us its l1 l2 => match us, its, l1, l2 with | [_, _], [_], _, _ => ⟨_, rfl, rfl⟩
  have d_TreeMost := ok_TreeMost T
  have k_Pebbles := (ok_Pebbles T).mkr
  refine cl_of T.d__law_sure scLSure (fun vs H Q E h => ?_) fun f cdv A outer s H vs Q E hr h => ?_
  · obtain ⟨p, t, a, b, ps, qs, n, bd, rfl, _⟩ := h
    rfl
  · obtain ⟨p, t, a, b, ps, qs, n, bd, rfl, hp, hbd, nap, nbp, hT, ok, ha, hb, n1, n2, k⟩ := h
    refine ⟨_, (pss_cons (ps_set (i := 5) scLSure.nd rfl (by first | exact Or.inl rfl | exact Or.inr rfl) (pe_c c_LLineOf hr (by decide) rfl (pa_cons (pv 2) (pa_cons (pv 3) pa_nil))))
  (pss_cons (ps_set (i := 6) scLSure.nd rfl (by first | exact Or.inl rfl | exact Or.inr rfl) (pe_op op_add (pe_op op_mulW (pe_ix ix_tup (pv 5) pe_int (fun _ _ => rfl)) (pv 4)) (pe_ix ix_tup (pv 5) pe_int (fun _ _ => rfl))))
  (pss_cons (ps_set (i := 7) scLSure.nd rfl (by first | exact Or.inl rfl | exact Or.inr rfl) (pe_c c_LWorstRow hr (by decide) rfl (pa_cons (pv 2) (pa_cons (pv 3) (pa_cons (pv 4) pa_nil)))))
  (pss_cons (ps_if (PW.pt (pw_or (pt_not (pt_val (pe_c c_LSame hr (by decide) rfl (pa_cons (pe_c c_TreeEnough hr (by decide) rfl (pa_cons (pv 1) (pa_cons (pv 4) pa_nil))) (pa_cons (pv 6) pa_nil))))) (pw_or1 (pt_cmpR op_ne (pe_callB (cr_sum rfl) (by rfl) T.b_sum (by decide +kernel) (pa_cons (pv 7) pa_nil)) (pe_op op_sub (pv 6) pe_int) (nomark _)))))
    (pss_one (ps_ret pe_bl))
    pss_nil)
  (pss_cons (ps_if (pt_not (pt_val (pe_c c_LIsWorst hr (by decide) rfl (pa_cons (pe_c c_TreeWorst hr (by decide) rfl (pa_cons (pv 1) (pa_cons (pv 4) pa_nil))) (pa_cons (pv 7) pa_nil)))))
    (pss_one (ps_ret pe_bl))
    pss_nil)
  (pss_cons (ps_if (PW.pt (pw_or (pt_cmpR op_ne (pe_c c_LBrought hr (by decide) rfl (pa_cons (pv 2) (pa_cons (pv 3) (pa_cons (pv 7) pa_nil)))) (pe_op op_sub (pv 4) pe_int) (nomark _)) (pw_or1 (pt_not (pt_val (pe_c c_LBrings hr (by decide) rfl (pa_cons (pv 1) (pa_cons (pv 2) (pa_cons (pv 3) (pa_cons (pv 7) (pa_cons (pe_op op_sub (pv 4) pe_int) pa_nil)))))))))))
    (pss_one (ps_ret pe_bl))
    pss_nil)
  (pss_cons (ps_for (passes_of rfl) rfl (pi_range1 (by rfl) T.b_range (pa_cons pe_int pa_nil)) (pg_name (i := 8) scLSure.nd rfl (by first | exact Or.inl rfl | exact Or.inr rfl))
    (pss_cons (ps_set (i := 9) scLSure.nd rfl (by first | exact Or.inl rfl | exact Or.inr rfl) (pe_callTy call_list_of (by rfl) T.b_list (by decide +kernel) (pa_cons (pv 7) pa_nil)))
    (pss_cons (ps_set (i := 10) scLSure.nd rfl (by first | exact Or.inl rfl | exact Or.inr rfl) (pe_c c_LDraw hr (by decide) rfl (pa_cons (pv 0) (pa_cons (pe_callB call_len_seq (by rfl) T.b_len (by decide +kernel) (pa_cons (pv 7) pa_nil)) pa_nil))))
    (pss_cons (ps_asg (pe_op op_add (pe_ix ix_list (pv 9) (pv 10) (fun _ _ => rfl)) pe_int) (pg_sub (pv 9) (pv 10) set_list))
    (pss_cons (ps_if (PW.pt (pw_or (pt_cmpR op_ne (pe_c c_LBrought hr (by decide) rfl (pa_cons (pv 2) (pa_cons (pv 3) (pa_cons (pv 9) pa_nil)))) (pv 4) (nomark _)) (pw_or1 (pt_not (pt_val (pe_c c_LBrings hr (by decide) rfl (pa_cons (pv 1) (pa_cons (pv 2) (pa_cons (pv 3) (pa_cons (pv 9) (pa_cons (pv 4) pa_nil)))))))))))
      (pss_one (ps_ret pe_bl))
      pss_nil)
    (pss_cons (ps_if (pt_not (pt_val (pe_c c_LBrings hr (by decide) rfl (pa_cons (pv 1) (pa_cons (pv 2) (pa_cons (pv 3) (pa_cons (pe_c c_LNear hr (by decide) rfl (pa_cons (pv 0) (pa_cons (pv 7) pa_nil))) (pa_cons (pv 4) pa_nil))))))))
      (pss_one (ps_ret pe_bl))
      pss_nil)
    (pss_one (ps_if (pt_not (pt_val (pe_c c_LBrings hr (by decide) rfl (pa_cons (pv 1) (pa_cons (pv 2) (pa_cons (pv 3) (pa_cons (pe_c c_LSpread hr (by decide) rfl (pa_cons (pv 0) (pa_cons (pe_callB call_len_seq (by rfl) T.b_len (by decide +kernel) (pa_cons (pv 7) pa_nil)) (pa_cons (pv 6) pa_nil)))) (pa_cons (pv 4) pa_nil))))))))
      (pss_one (ps_ret pe_bl))
      pss_nil))))))))
  (pss_one (ps_ret (pe_c c_LSame hr (by decide) rfl (pa_cons (pe_cK0 (ks := ["placing", "tree"]) (g := swp) d_TreeMost hr (by decide) rfl (pk_cons (pe_mk k_Pebbles hr (by decide) rfl (pa_cons (pv 7) pa_nil)) (pk_cons (pv 1) pk_nil)) (fun _ _ _ _ _ _ ws hl => match ws, hl with | [_, _], _ => rfl) swp_rel) (pa_cons (pe_op op_sub (pv 4) pe_int) pa_nil)))))))))))), ?_⟩
    have G : ∀ {c : Nat}, c ≤ bd + 5000 → c ≤ 10 ^ 100 := fun h => big6 (by show _ ≤ 10000000; omega)
    have N : ∀ {n : Int}, n ≤ 1000 → n ≤ 10 ^ 130 := fun h => Int.le_trans h (by decide +kernel)
    have hlen := ok.1
    refine ⟨_, rfl, _, rfl, a, b, ps, qs, rfl, ha, hb, ok, fun x y q H1 s1 hL hq => ?_⟩
    have bx := line_bnd ok hL
    refine ⟨_, rfl, q, _, _, _, rfl, rfl, SqT.of hq, atI0, _, rfl, _, _, rfl, rfl, cmul_small (abs_small (by omega) (by omega)) (abs_small (by omega) (by omega)), _, rfl, q, _, _, _, rfl, rfl, SqT.of hq, atI1, _, _, rfl, rfl, ?_⟩
    refine ⟨_, rfl, _, rfl, _, rfl, a, b, ps, qs, n, rfl, s1 _ _ ha, s1 _ _ hb, ok, n1, n2, fun W H2 f s2 fW hI hW => ?_⟩
    have hsum := worst_sum ok hL hI n
    have hbig := big_sum ok hL hI n1 n2
    have hmem := worst_mem (f := f) ok n1 n2
    have hlw := worst_len (ps := ps) (qs := qs) (f := f) n
    have hPw := worst_okP (f := f) ok n1 n2
    have hbr := worst_brings ok hI n
    have hmore := fun {v : Nat} {x : Int} => more_brings (v := v) (x := x) ok hL hI n1 n2
    have s12 := s1.trans s2
    have pW := hp.ne (s1.free fW)
    refine ⟨_, rfl, _, rfl, t, n, ps, qs, rfl, hT.same s12, ok, fun _ _ x' y' H3 s3 hL' => ?_, fun c => by omega⟩
    obtain ⟨rfl, rfl⟩ := line_uniq ok hL hL'
    have s13 := s12.trans s3
    have hW3 := s3 _ _ hW
    refine ⟨_, rfl, same_of (.int _ _) ⟨_, rfl, ifF rfl ?_⟩⟩
    refine ⟨_, rfl, W, _, rfl, SqL.of hW3, _, rfl, _, _, rfl, rfl, rfl, _, rfl, ifIN (fun z => absurd hsum z) fun _ => ?_⟩
    refine ⟨_, rfl, _, rfl, t, n, ps, qs, rfl, hT.same s13, ok, fun _ _ f' pw H4 s4 hI' hP => ?_, fun c => by omega⟩
    obtain rfl := isH_uniq ok.2.1 ok.2.2 hI hI'
    have s14 := s13.trans s4
    have hW4 := s4 _ _ hW3
    refine ⟨_, rfl, pw, W, _, rfl, hP, hW4, by omega, fun H5 s5 => ⟨_, rfl, ifF rfl ?_⟩⟩
    have s15 := s14.trans s5
    have hW5 := s5 _ _ hW4
    refine ⟨_, rfl, _, rfl, _, rfl, a, b, W, ps, qs, _, rfl, s15 _ _ ha, s15 _ _ hb, hW5, ok, hlw, fun H6 s6 => ?_⟩
    have s16 := s15.trans s6
    have hW6 := s6 _ _ hW5
    refine ⟨_, rfl, _, _, rfl, rfl, rfl, _, rfl, ifIN (fun z => absurd hbr z) fun _ => ?_⟩
    refine ⟨_, rfl, _, rfl, _, rfl, _, rfl, _, rfl, _, _, rfl, rfl, t, a, b, W, ps, qs, _, _, rfl, hT.same s16, ok, s16 _ _ ha, s16 _ _ hb, hW6, hlw, hPw, by rw [hbr]; exact Int.le_refl _, fun H7 s7 => ⟨_, rfl, ifF rfl ?_⟩⟩
    have s17 := s16.trans s7
    have hW7 := s7 _ _ hW6
    have p7 := hp.same s17
    have hT7 := hT.same s17
    have ha7 := s17 _ _ ha
    have hb7 := s17 _ _ hb
    have b17 := But.of (W := p) s17
    clear s1 s2 s3 s4 s5 s6 s7 s12 s13 s14 s15 s16 hq hW hW3 hW4 hW5 hW6 hP
    generalize hw : worst ps qs f n = ws at hsum hmem hlw hPw hbr hW7 hmore
    generalize hty : x * n + y = tot at hsum hbig
    have hnn := fun y hy => (hmem y hy).1
    refine ⟨_, rfl, by decide, by decide, ?_⟩
    refine for_range (lo := 0) (n := 3) (fun i σ H' => ∃ v8 v9 v10 : Option V, σ = [some (.ref p), some (.ref t), some (.ref a), some (.ref b), some (.int n), some (.ref q), some (.int tot), some (.ref W), v8, v9, v10] ∧ But p H7 H' ∧ PoolB H' p (bd + 300 * i))
      ⟨none, none, none, by rw [← hty]; rfl, But.of (Same.refl H7), p7⟩ (fun i σ H' hi h => ?_) fun σ H' h => ?_
    · obtain ⟨v8, v9, v10, rfl, bH, pH⟩ := h
      have elw : (((ws.map V.int).length : Nat) : Int) = (ps.length : Int) + 1 := by rw [List.length_map, hlw]; rfl
      have hWH := bH _ _ pW hW7
      refine ⟨_, rfl, W, _, rfl, .inl (SqL.of hWH), fun M hM => ?_⟩
      have nM := pH.ne hM
      have sM : Same H' (upd H' M (.lst (ws.map V.int))) := sm0 hM
      have pM := pH.new (o := .lst (ws.map V.int)) hM
      have hM1 : upd H' M (.lst (ws.map V.int)) M = some (.lst (ws.map V.int)) := upd_same
      generalize upd H' M (.lst (ws.map V.int)) = G1 at sM pM hM1 ⊢
      refine ⟨_, rfl, _, rfl, W, _, rfl, .inl (SqL.of (sM _ _ hWH)), ?_⟩
      rw [elw]
      refine draw_of pM (G (by omega)) (by omega) (N (by omega)) fun d G2 b2 p2 d0 d1 => ?_
      obtain ⟨dn, rfl⟩ : ∃ dn : Nat, d = (dn : Int) := ⟨d.toNat, by omega⟩
      have hM2 := b2 _ _ nM hM1
      obtain ⟨z, hz⟩ := at_some (l := ws) (v := dn) (by omega)
      have hz0 := hnn z (List.mem_of_getElem? hz)
      refine ⟨_, rfl, _, rfl, M, _, _, _, rfl, rfl, SqL.of hM2, atI_nat (at_ints hz), _, _, rfl, rfl, ?_⟩
      refine ⟨_, rfl, _, rfl, M, _, _, dn, rfl, rfl, hM2, ixN_of rfl (by rw [List.length_map]; omega), ?_⟩
      have bG2 : But p H' (upd G2 M (.lst ((ws.map V.int).set dn (.int (z + 1))))) := fun u o nu e => by rw [upd_ne (ne_of_none e hM)]; exact b2 _ _ nu (sM _ _ e)
      have pG2 := p2.put (o := .lst ((ws.map V.int).set dn (.int (z + 1)))) nM
      have hM3 : upd G2 M (.lst ((ws.map V.int).set dn (.int (z + 1)))) M = some (.lst ((ws.set dn (z + 1)).map V.int)) := by rw [upd_same, List.map_set]
      generalize upd G2 M (.lst ((ws.map V.int).set dn (.int (z + 1)))) = G3 at bG2 pG2 hM3 ⊢
      have bG := bH.trans bG2
      have hT3 := hT7.but p7 bG
      have ha3 := bG _ _ nap ha7
      have hb3 := bG _ _ nbp hb7
      have hW3 := bG _ _ pW hW7
      have hl3 : (ws.set dn (z + 1)).length = ps.length + 1 := by rw [List.length_set, hlw]
      have hm3 := hmore hz
      have hP3 : okP (ws.set dn (z + 1)) := okP_of ok hl3 (nn_set hnn (by omega)) (by rw [sum_set _ hz]; omega)
      refine ⟨_, rfl, _, rfl, _, rfl, a, b, M, ps, qs, _, rfl, ha3, hb3, hM3, ok, hl3, fun G4 s4 => ?_⟩
      refine ⟨_, rfl, rfl, _, rfl, ifIN (fun z => absurd hm3 z) fun _ => ?_⟩
      refine ⟨_, rfl, _, rfl, _, rfl, _, rfl, _, rfl, t, a, b, M, ps, qs, _, _, rfl, hT3.same s4, ok, s4 _ _ ha3, s4 _ _ hb3, s4 _ _ hM3, hl3, hP3, by rw [hm3]; exact Int.le_refl _, fun G5 s5 => ⟨_, rfl, ifF rfl ?_⟩⟩
      have s35 := s4.trans s5
      have bG5 := bG.trans (But.of s35)
      have p5 := pG2.same s35
      have hW5 := s35 _ _ hW3
      -- near
      refine ⟨_, rfl, _, rfl, _, rfl, _, rfl, _, rfl, p, W, ws, _, rfl, p5, by show _ ≤ 1000000; omega, pW, hW5, by omega, by omega, hnn, fun qn ns G6 b6 p6 f6 hq6 hln hnn6 hsn => ?_⟩
      have bG6 := bG5.trans b6
      have hT6 := hT7.but p7 bG6
      have hs6 : ns.sum = tot := by omega
      have hbr6 := brings (m := n) ok hL (h := ns) (by omega) (nn_mem hnn6) (by omega)
      refine ⟨_, rfl, t, a, b, qn, ps, qs, ns, _, rfl, hT6, ok, bG6 _ _ nap ha7, bG6 _ _ nbp hb7, hq6, by omega, okP_of ok (by omega) hnn6 (by omega), hbr6, fun G7 s7 => ⟨_, rfl, ifF rfl ?_⟩⟩
      have bG7 := bG6.trans (But.of s7)
      have hW7' := bG7 _ _ pW hW7
      -- spread
      refine ⟨_, rfl, _, rfl, _, rfl, _, rfl, _, rfl, W, _, rfl, .inl (SqL.of hW7'), _, rfl, ?_⟩
      rw [elw]
      refine ⟨p, (ps.length : Int) + 1, tot, _, rfl, p6.same s7, by show _ ≤ 1000000; omega, by omega, by omega, by omega, by omega, fun qs2 ms G8 b8 p8 f8 hq8 hlm hnn8 hsm => ?_⟩
      have bG8 := bG7.trans b8
      have hT8 := hT7.but p7 bG8
      have hbr8 := brings (m := n) ok hL (h := ms) (by omega) (nn_mem hnn8) (by omega)
      refine ⟨_, rfl, t, a, b, qs2, ps, qs, ms, _, rfl, hT8, ok, bG8 _ _ nap ha7, bG8 _ _ nbp hb7, hq8, by omega, okP_of ok (by omega) hnn8 (by omega), hbr8, fun G9 s9 => ⟨_, rfl, ifF rfl ?_⟩⟩
      exact ⟨_, _, _, rfl, bG8.trans (But.of s9), (p8.same s9).up (by omega)⟩
    · obtain ⟨v8, v9, v10, rfl, bH, pH⟩ := h
      have hT8 := hT7.but p7 bH
      have hW8 := bH _ _ pW hW7
      refine ⟨_, rfl, fun x' dx hx hdx ne => peb_ok hx hdx hPw (.inl (SqL.of hW8)) fun G3 s3 hPb => ⟨rfl, ?_⟩⟩
      refine ⟨_, rfl, rfl, t, x', ps, qs, ws, rfl, hT8.same s3, ok, hPb, hlw, fun G4 s4 => ?_⟩
      refine ⟨_, rfl, _, _, rfl, rfl, same_of (by rw [hbr]; exact .int _ _) ?_⟩
      exact k G4 ((b17.trans bH).trans (But.of (s3.trans s4))) ((pH.same (s3.trans s4)).up (by omega))
theorem scLFirst : FnScope ["tree", "parents", "prices", "line_v", "worst"] ["tree", "parents", "prices"] (defScope sLFirst) := ⟨rfl, rfl, rfl, by decide +kernel, rfl, by decide +kernel, by decide +kernel⟩
theorem ok_LFirst (T : Txt P w K mg base Ad1 Ad2 Ad3 Ad4 Ad5 Ad6 Ad9 Ad10 Ad11 Ad12) : Cl P w K mg base 7 "_law_first" (spFirst Ad11) [] := by
  have c_LSame := ok_LSame T 0
  have c_LLineOf := ok_LLineOf T
  have c_LWorstRow := ok_LWorstRow T
  have c_LIsWorst := ok_LIsWorst T
  have c_TreeEnough1 : Cl P w K mg base 5 "tree_enough" (spEnough Ad2 Ad11) [.int 1] := (ok_TreeEnough T).cl 1 0 (by simp) rfl fun T kV doc pm an cdv ct us its l1 l2 => match us, its, l1, l2 with | [_], [_], _, _ => ⟨_, rfl, rfl⟩
  have c_TreeWorst1 : Cl P w K mg base 6 "tree_worst" (spWorst Ad2 Ad11 Ad12) [.int 1] := (ok_TreeWorst T).cl 1 0 (by simp) rfl fun T kV doc pm an cdv ct us its l1 l2 => match us, its, l1, l2 with | [_], [_], _, _ => ⟨_, rfl, rfl⟩
  have d_TreeWorst := ok_TreeWorst T
  refine cl_of T.d__law_first scLFirst (fun vs H Q E h => ?_) fun f cdv A outer s H vs Q E hr h => ?_
  · obtain ⟨t, a, b, ps, qs, rfl, _⟩ := h
    rfl
  · obtain ⟨t, a, b, ps, qs, rfl, hT, ok, ha, hb, k⟩ := h
    refine ⟨_, (pss_cons (ps_set (i := 3) scLFirst.nd rfl (by first | exact Or.inl rfl | exact Or.inr rfl) (pe_c c_LLineOf hr (by decide) rfl (pa_cons (pv 1) (pa_cons (pv 2) pa_nil))))
  (pss_cons (ps_set (i := 4) scLFirst.nd rfl (by first | exact Or.inl rfl | exact Or.inr rfl) (pe_c c_LWorstRow hr (by decide) rfl (pa_cons (pv 1) (pa_cons (pv 2) (pa_cons pe_int pa_nil)))))
  (pss_cons (ps_if (PW.pt (pw_or (pt_not (pt_val (pe_c c_LIsWorst hr (by decide) rfl (pa_cons (pe_c c_TreeWorst1 hr (by decide) rfl (pa_cons (pv 0) pa_nil)) (pa_cons (pv 4) pa_nil))))) (pw_or1 (pt_not (pt_val (pe_c c_LSame hr (by decide) rfl (pa_cons (pe_c c_TreeEnough1 hr (by decide) rfl (pa_cons (pv 0) pa_nil)) (pa_cons (pe_callB (cr_sumT rfl) (by rfl) T.b_sum (by decide +kernel) (pa_cons (pv 3) pa_nil)) pa_nil))))))))
    (pss_one (ps_ret pe_bl))
    pss_nil)
  (pss_cons (ps_set (i := 4) scLFirst.nd rfl (by first | exact Or.inl rfl | exact Or.inr rfl) (pe_c c_LWorstRow hr (by decide) rfl (pa_cons (pv 1) (pa_cons (pv 2) (pa_cons (pe_op op_pow pe_int pe_int) pa_nil)))))
  (pss_one (ps_ret (pe_c c_LIsWorst hr (by decide) rfl (pa_cons (pe_cKD (ks := ["many", "tree"]) (g := fun _ zs => swp zs) d_TreeWorst hr (by decide) rfl (pk_cons (pe_op op_pow pe_int pe_int) (pk_cons (pv 0) pk_nil)) (by simp) (fun _ r => swp_rel r) (fun _ _ _ _ _ _ _ us its ws l0 l1 l2 => match us, its, ws, l0, l1, l2 with | [], [_], [_, _], _, _, _ => ⟨_, rfl, rfl⟩)) (pa_cons (pv 4) pa_nil))))))))), ?_⟩
    have hlen := ok.1
    have p6 : ((10 : Int) ^ Int.toNat 6) = 1000000 := by decide +kernel
    refine ⟨_, rfl, _, rfl, a, b, ps, qs, rfl, ha, hb, ok, fun x y q H1 s1 hL hq => ?_⟩
    refine ⟨_, rfl, _, rfl, a, b, ps, qs, 1, rfl, s1 _ _ ha, s1 _ _ hb, ok, by decide, by decide, fun W H2 f s2 fW hI hW => ?_⟩
    have s12 := s1.trans s2
    have hlw := worst_len (ps := ps) (qs := qs) (f := f) 1
    refine ⟨_, rfl, t, 1, ps, qs, rfl, hT.same s12, ok, fun _ _ f' pw H4 s4 hI' hP => ?_, fun c => by omega⟩
    obtain rfl := isH_uniq ok.2.1 ok.2.2 hI hI'
    have s14 := s12.trans s4
    refine ⟨_, rfl, pw, W, _, rfl, hP, s4 _ _ hW, by omega, fun H5 s5 => ⟨_, rfl, ifF rfl ?_⟩⟩
    have s15 := s14.trans s5
    refine ⟨_, rfl, t, 1, ps, qs, rfl, hT.same s15, ok, fun _ _ x' y' H6 s6 hL' => ?_, fun c => by omega⟩
    obtain ⟨rfl, rfl⟩ := line_uniq ok hL hL'
    have s16 := s15.trans s6
    have hq6 := (((s2.trans s4).trans s5).trans s6) _ _ hq
    refine ⟨_, rfl, q, [x, y], rfl, SqT.of hq6, same_of (by rw [Int.mul_one, show ([x, y] : List Int).sum = x + y by show x + (y + 0) = x + y; omega]; exact .int _ _) ⟨_, rfl, ifF rfl ?_⟩⟩
    refine ⟨_, rfl, _, rfl, _, _, rfl, rfl, pow10 (by decide) (by decide), a, b, ps, qs, _, rfl, s16 _ _ ha, s16 _ _ hb, ok, by rw [p6]; decide, by rw [p6]; decide, fun W2 H7 f2 s7 fW2 hI2 hW2 => ?_⟩
    obtain rfl := isH_uniq ok.2.1 ok.2.2 hI hI2
    have s17 := s16.trans s7
    refine ⟨_, _, rfl, rfl, pow10 (by decide) (by decide), _, rfl, rfl, t, _, ps, qs, rfl, hT.same s17, ok, fun _ _ f' pw2 H8 s8 hI' hP2 => ?_, fun c => by rw [p6] at c; omega⟩
    obtain rfl := isH_uniq ok.2.1 ok.2.2 hI hI'
    refine ⟨_, rfl, pw2, W2, _, rfl, hP2, s8 _ _ hW2, by rw [worst_len]; omega, fun H9 s9 => ?_⟩
    exact k H9 ((s17.trans s8).trans s9)
end
end K14
set_option maxRecDepth 100000
set_option maxHeartbeats 4000000
namespace K14
open PySem PySem.Spec PyProof.Rows L2 SI
local macro_rules | `(tactic| walk_at "lk") => `(tactic| first | exact lk_hit | exact lk_nil | (refine lk_next (by decide +kernel) ?_; walk_at "lk"))
def spLaw (K : PySem.W.Frag) : Sp := fun vs H Q _ => ∃ (a : Addr) (ns : List Int), vs = [.ref a] ∧ SqL K H a (ns.map V.int) ∧ ns.length ≤ 63 ∧ ∀ H', Q (.bl true) H'
/-- the rows and the trees of the law -/
structure Wd (C a b a' b' t t' : Addr) (ps qs ps' qs' : List Int) (H : Hp) : Prop where
  t1 : TreeAt C H t ps qs
  t2 : TreeAt C H t' ps' qs'
  ra : H a = some (.lst (ps.map V.int))
  rb : H b = some (.lst (qs.map V.int))
  ra' : H a' = some (.lst (ps'.map V.int))
  rb' : H b' = some (.lst (qs'.map V.int))
theorem Wd.but {C p a b a' b' t t' : Addr} {ps qs ps' qs' : List Int} {H H' : Hp} {c : Nat} (h : Wd C a b a' b' t t' ps qs ps' qs' H) (na : a ≠ p) (nb : b ≠ p) (na' : a' ≠ p) (nb' : b' ≠ p) (hp : PoolB H p c) (s : But p H H') : Wd C a b a' b' t t' ps qs ps' qs' H' :=
  ⟨h.t1.but hp s, h.t2.but hp s, s _ _ na h.ra, s _ _ nb h.rb, s _ _ na' h.ra', s _ _ nb' h.rb'⟩
theorem da_three {H : Hp} {r r' : Addr} {n : Int} (h : H r = some (.tup [.str "BadCount", .str "many", .int n])) (h' : H r' = some (.tup [.str "BadCount", .str "many", .int n])) : Da H 1 (.ref r) (.ref r') :=
  da_map (F := fun x : V => x) (xs := [.str "BadCount", .str "many", .int n]) h h' (by show 3 ≤ 100000; decide) fun x hx => by
    rcases List.mem_cons.mp hx with rfl | hx
    · exact .str 0 _ (by decide +kernel)
    rcases List.mem_cons.mp hx with rfl | hx
    · exact .str 0 _ (by decide +kernel)
    rcases List.mem_cons.mp hx with rfl | hx
    · exact .int 0 _
    cases hx
section
variable {P : Program} {w : World} {K : PySem.W.Frag} {mg : Str → Option Value} {base : Heap} {Ad1 Ad2 Ad3 Ad4 Ad5 Ad6 Ad9 Ad10 Ad11 Ad12 : Addr}
theorem scLaw : FnScope ["script", "pool", "edges", "parents", "prices", "many", "lower", "costs", "tree", "other", "far"] ["script"] (defScope sLaw) := ⟨rfl, rfl, rfl, by decide +kernel, rfl, by decide +kernel, by decide +kernel⟩
theorem ok_Law (T : Txt P w K mg base Ad1 Ad2 Ad3 Ad4 Ad5 Ad6 Ad9 Ad10 Ad11 Ad12) : Cd P w K mg base 14 "law" sLaw ["script"] (spLaw K) := by
  have c_LTakeCells := ok_LTakeCells T
  have c_LDraw := ok_LDraw T
  have c_LParentRow := ok_LParentRow T
  have c_LPriceRow := ok_LPriceRow T
  have k_Tree := (ok_Tree T).mkr
  have c_LFirst := ok_LFirst T
  have c_LSure := ok_LSure T
  have c_LTry := ok_LTry T
  have c_LSame := ok_LSame T 1
  refine cd_of T.d_law scLaw (fun vs H Q E h => ?_) fun f cdv A outer s H vs Q E hr h => ?_
  · obtain ⟨a, ns, rfl, _⟩ := h
    rfl
  · obtain ⟨sc, ns, rfl, hsc, hn, k⟩ := h
    refine ⟨_, (pss_cons (ps_set (i := 1) scLaw.nd rfl (by first | exact Or.inl rfl | exact Or.inr rfl) (pe_c c_LTakeCells hr (by decide) rfl (pa_cons (pv 0) pa_nil)))
  (pss_cons (ps_set (i := 2) scLaw.nd rfl (by first | exact Or.inl rfl | exact Or.inr rfl) (pe_c c_LDraw hr (by decide) rfl (pa_cons (pv 1) (pa_cons pe_int pa_nil))))
  (C8.pss_cut (ps_if (pt_cmpR op_eq (pe_c c_LDraw hr (by decide) rfl (pa_cons (pv 1) (pa_cons pe_int pa_nil))) pe_int (nomark _))
    (pss_one (ps_set (i := 2) scLaw.nd rfl (by first | exact Or.inl rfl | exact Or.inr rfl) (pe_op op_sub pe_int (pe_c c_LDraw hr (by decide) rfl (pa_cons (pv 1) (pa_cons pe_int pa_nil))))))
    pss_nil)
  (pss_cons (ps_set (i := 3) scLaw.nd rfl (by first | exact Or.inl rfl | exact Or.inr rfl) (pe_c c_LParentRow hr (by decide) rfl (pa_cons (pv 1) (pa_cons (pv 2) pa_nil))))
  (pss_cons (ps_set (i := 4) scLaw.nd rfl (by first | exact Or.inl rfl | exact Or.inr rfl) (pe_c c_LPriceRow hr (by decide) rfl (pa_cons (pv 1) (pa_cons (pv 2) pa_nil))))
  (pss_cons (ps_set (i := 5) scLaw.nd rfl (by first | exact Or.inl rfl | exact Or.inr rfl) (pe_op op_add pe_int (pe_c c_LDraw hr (by decide) rfl (pa_cons (pv 1) (pa_cons pe_int pa_nil)))))
  (C8.pss_cut (ps_if (pt_cmpR op_eq (pe_c c_LDraw hr (by decide) rfl (pa_cons (pv 1) (pa_cons pe_int pa_nil))) pe_int (nomark _))
    (pss_one (ps_set (i := 5) scLaw.nd rfl (by first | exact Or.inl rfl | exact Or.inr rfl) (pe_op op_add pe_int (pe_c c_LDraw hr (by decide) rfl (pa_cons (pv 1) (pa_cons (pe_op op_pow pe_int pe_int) pa_nil))))))
    pss_nil)
  (pss_cons (ps_set (i := 6) scLaw.nd rfl (by first | exact Or.inl rfl | exact Or.inr rfl) (pe_c c_LParentRow hr (by decide) rfl (pa_cons (pv 1) (pa_cons (pe_c c_LDraw hr (by decide) rfl (pa_cons (pv 1) (pa_cons pe_int pa_nil))) pa_nil))))
  (pss_cons (ps_set (i := 7) scLaw.nd rfl (by first | exact Or.inl rfl | exact Or.inr rfl) (pe_c c_LPriceRow hr (by decide) rfl (pa_cons (pv 1) (pa_cons (pe_callB call_len_seq (by rfl) T.b_len (by decide +kernel) (pa_cons (pv 6) pa_nil)) pa_nil))))
  (pss_cons (ps_set (i := 8) scLaw.nd rfl (by first | exact Or.inl rfl | exact Or.inr rfl) (pe_mk k_Tree hr (by decide) rfl (pa_cons (pe_callTy call_list_of (by rfl) T.b_list (by decide +kernel) (pa_cons (pv 3) pa_nil)) (pa_cons (pe_callTy call_tuple_of (by rfl) T.b_tuple (by decide +kernel) (pa_cons (pv 4) pa_nil)) pa_nil))))
  (pss_cons (ps_set (i := 9) scLaw.nd rfl (by first | exact Or.inl rfl | exact Or.inr rfl) (pe_mk k_Tree hr (by decide) rfl (pa_cons (pe_callTy call_tuple_of (by rfl) T.b_tuple (by decide +kernel) (pa_cons (pv 6) pa_nil)) (pa_cons (pe_callTy call_list_of (by rfl) T.b_list (by decide +kernel) (pa_cons (pv 7) pa_nil)) pa_nil))))
  (pss_cons (ps_if (PW.pt (pw_or (pt_not (pt_val (pe_c c_LFirst hr (by decide) rfl (pa_cons (pv 8) (pa_cons (pv 3) (pa_cons (pv 4) pa_nil)))))) (pw_or1 (pt_not (pt_val (pe_c c_LFirst hr (by decide) rfl (pa_cons (pv 9) (pa_cons (pv 6) (pa_cons (pv 7) pa_nil)))))))))
    (pss_one (ps_ret pe_bl))
    pss_nil)
  (pss_cons (ps_if (PW.pt (pw_or (pt_not (pt_val (pe_c c_LSure hr (by decide) rfl (pa_cons (pv 1) (pa_cons (pv 8) (pa_cons (pv 3) (pa_cons (pv 4) (pa_cons (pv 5) pa_nil)))))))) (pw_or1 (pt_not (pt_val (pe_c c_LSure hr (by decide) rfl (pa_cons (pv 1) (pa_cons (pv 9) (pa_cons (pv 6) (pa_cons (pv 7) (pa_cons pe_int pa_nil)))))))))))
    (pss_one (ps_ret pe_bl))
    pss_nil)
  (pss_cons (ps_for (passes_of rfl) rfl (pi_list (pe_lst (pa_cons pe_int (pa_cons (pe_op op_sub (pe_op op_sub pe_int pe_int) (pe_c c_LDraw hr (by decide) rfl (pa_cons (pv 1) (pa_cons (pe_op op_pow pe_int pe_int) pa_nil)))) (pa_cons (pe_op op_add (pe_op op_pow pe_int pe_int) pe_int) (pa_cons (pe_op op_add (pe_op op_add (pe_op op_pow pe_int pe_int) pe_int) (pe_c c_LDraw hr (by decide) rfl (pa_cons (pv 1) (pa_cons (pe_op op_pow pe_int pe_int) pa_nil)))) pa_nil)))))) (pg_name (i := 10) scLaw.nd rfl (by first | exact Or.inl rfl | exact Or.inr rfl))
    (pss_one (ps_if (pt_not (pt_val (pe_c c_LSame hr (by decide) rfl (pa_cons (pe_c c_LTry hr (by decide) rfl (pa_cons (pv 8) (pa_cons (pv 10) pa_nil))) (pa_cons (pe_tup (pa_cons pe_str (pa_cons pe_str (pa_cons (pv 10) pa_nil)))) pa_nil)))))
      (pss_one (ps_ret pe_bl))
      pss_nil)))
  (pss_one (ps_ret (pe_and (pe_c c_LSure hr (by decide) rfl (pa_cons (pv 1) (pa_cons (pv 9) (pa_cons (pv 6) (pa_cons (pv 7) (pa_cons (pv 5) pa_nil)))))) (pe_one (pe_c c_LSure hr (by decide) rfl (pa_cons (pv 1) (pa_cons (pv 8) (pa_cons (pv 3) (pa_cons (pv 4) (pa_cons pe_int pa_nil)))))))))))))))))))))))), ?_⟩
    have G : ∀ {d : Nat}, d ≤ 100000 → d ≤ 10 ^ 100 := fun h => big6 (by show _ ≤ 10000000; omega)
    have N : ∀ {n : Int}, n ≤ 1000 → n ≤ 10 ^ 130 := fun h => Int.le_trans h (by decide +kernel)
    refine ⟨_, rfl, sc, ns, rfl, hsc, hn, fun p H1 s1 _ p1 => ?_⟩
    refine ⟨_, rfl, draw_of p1 (G (by omega)) (by decide) (N (by decide)) fun ed0 H2 b2 p2 d0 d1 => ?_⟩
    refine ⟨fun σ' H' => ∃ ed : Int, σ' = [some (.ref sc), some (.ref p), some (.int ed), none, none, none, none, none, none, none, none] ∧ 0 ≤ ed ∧ ed ≤ 59 ∧ PoolB H' p 4, ?_, ?_⟩
    · refine ⟨_, rfl, draw_of p2 (G (by omega)) (by decide) (N (by decide)) fun e H3 b3 p3 e0 e1 => ?_⟩
      refine ⟨rfl, _, rfl, ifI (fun _ => ?_) fun _ => ⟨ed0, rfl, d0, by omega, p3.up (by omega)⟩⟩
      refine ⟨_, rfl, draw_of p3 (G (by omega)) (by decide) (N (by decide)) fun e2 H4 b4 p4 e20 e21 => ?_⟩
      exact ⟨_, _, rfl, rfl, 59 - e2, rfl, by omega, by omega, p4.up (by omega)⟩
    rintro _ H4 ⟨ed, rfl, ed0', ed1, p4⟩
    refine ⟨_, rfl, _, rfl, p, ed, 4, rfl, p4, by decide, ed0', ed1, fun a ps H5 b5 p5 fa ha lps hps => ?_⟩
    have nap := p4.ne fa
    refine ⟨_, rfl, _, rfl, p, ed, _, rfl, p5, by decide, ed0', ed1, fun b qs H6 b6 p6 fb hb lqs hqs => ?_⟩
    have nbp := p5.ne fb
    have ha6 := b6 _ _ nap ha
    refine ⟨_, rfl, draw_of p6 (G (by omega)) (by decide) (N (by decide)) fun m0 H7 b7 p7 m00 m01 => ?_⟩
    refine ⟨_, _, rfl, rfl, ?_⟩
    have p6c : ((10 : Int) ^ Int.toNat 6) = 1000000 := by decide +kernel
    have p30 : ((10 : Int) ^ Int.toNat 30) ≤ 10 ^ 130 := by decide +kernel
    have p30' : 0 < ((10 : Int) ^ Int.toNat 30) := by decide +kernel
    refine ⟨fun σ' H' => ∃ n : Int, σ' = [some (.ref sc), some (.ref p), some (.int ed), some (.ref a), some (.ref b), some (.int n), none, none, none, none, none] ∧ 1 ≤ n ∧ n ≤ 1000000 ∧ But p H6 H' ∧ PoolB H' p 300, ?_, ?_⟩
    · refine ⟨_, rfl, draw_of p7 (G (by omega)) (by decide) (N (by decide)) fun e H3 b3 p3 e0 e1 => ?_⟩
      refine ⟨rfl, _, rfl, ifI (fun _ => ?_) fun _ => ⟨1 + m0, rfl, by omega, by omega, b7.trans b3, p3.up (by omega)⟩⟩
      refine ⟨_, rfl, _, _, rfl, rfl, pow10 (by decide) (by decide), draw_of p3 (G (by omega)) (by decide +kernel) (by decide +kernel) fun e2 H4 b4 p4 e20 e21 => ?_⟩
      rw [p6c] at e21
      exact ⟨_, _, rfl, rfl, 1 + e2, rfl, by omega, by omega, (b7.trans b3).trans b4, p4.up (by omega)⟩
    rintro _ H8 ⟨n, rfl, hn1, hn2, b8, p8⟩
    refine ⟨_, rfl, _, rfl, draw_of p8 (G (by omega)) (by decide) (N (by decide)) fun e7 H9 b9 p9 e70 e71 => ?_⟩
    refine ⟨p, e7, _, rfl, p9, by decide, by omega, by omega, fun a' ps' H10 b10 p10 fa' ha' lps' hps' => ?_⟩
    have nap' := p9.ne fa'
    refine ⟨_, rfl, _, rfl, a', _, rfl, .inl (SqL.of ha'), p, _, _, rfl, p10, by decide, by omega, by rw [List.length_map]; omega, fun b' qs' H11 b11 p11 fb' hb' lqs' hqs' => ?_⟩
    rw [List.length_map] at lqs'
    have nbp' := p10.ne fb'
    have ok : okT ps qs := ok_rows hps hqs (by omega) (by omega)
    have ok' : okT ps' qs' := ok_rows hps' hqs' (by omega) (by omega)
    have ha11 := b11 _ _ nap (b10 _ _ nap (b9 _ _ nap (b8 _ _ nap ha6)))
    have hb11 := b11 _ _ nbp (b10 _ _ nbp (b9 _ _ nbp (b8 _ _ nbp hb)))
    have ha11' := b11 _ _ nap' ha'
    refine ⟨_, rfl, a, _, rfl, .inl (SqL.of ha11), fun l1 hl1 => ?_⟩
    have u1 := sm0 (o := .lst (ps.map V.int)) hl1
    have f1 : upd H11 l1 (.lst (ps.map V.int)) l1 = some (.lst (ps.map V.int)) := upd_same
    generalize upd H11 l1 (.lst (ps.map V.int)) = H12 at u1 f1 ⊢
    refine ⟨_, rfl, b, _, rfl, .inl ⟨SqL.of (u1 _ _ hb11), fun q1 hq1 => ?_⟩⟩
    have u2 := smN u1 (o := .tup (qs.map V.int)) hq1
    refine fun t dx hx hdx ne => mk_ok hx hdx ok (.inl (SqL.of (atN f1 hq1))) (.inr upd_same) fun H13 s13 hT => ⟨rfl, ?_⟩
    have u3 := u2.trans s13
    refine ⟨_, rfl, a', _, rfl, .inl ⟨SqL.of (u3 _ _ ha11'), fun q2 hq2 => ?_⟩⟩
    have u4 := smN u3 (o := .tup (ps'.map V.int)) hq2
    have v4 := sm0 (o := .tup (ps'.map V.int)) hq2
    have f4 : upd H13 q2 (.tup (ps'.map V.int)) q2 = some (.tup (ps'.map V.int)) := upd_same
    generalize upd H13 q2 (.tup (ps'.map V.int)) = H14 at u4 v4 f4 ⊢
    refine ⟨_, rfl, b', _, rfl, .inl (SqL.of (u4 _ _ hb')), fun l2 hl2 => ?_⟩
    have u5 := smN u4 (o := .lst (qs'.map V.int)) hl2
    have v5 := smN v4 (o := .lst (qs'.map V.int)) hl2
    refine fun t' dx' hx' hdx' ne' => mk_ok hx' hdx' ok' (.inr (atN f4 hl2)) (.inl (SqL.of upd_same)) fun G0 s18 hT' => ⟨rfl, ?_⟩
    have u6 := u5.trans s18
    have W0 : Wd Ad11 a b a' b' t t' ps qs ps' qs' G0 := ⟨hT.same (v5.trans s18), hT', u6 _ _ ha11, u6 _ _ hb11, u6 _ _ ha11', u6 _ _ hb'⟩
    have P0 := p11.same u6
    refine ⟨_, rfl, _, rfl, _, rfl, t, a, b, ps, qs, rfl, W0.t1, ok, W0.ra, W0.rb, fun G1 s1 => ⟨_, rfl, ifF rfl ?_⟩⟩
    have W1 := W0.but nap nbp nap' nbp' P0 (But.of s1)
    have P1 := P0.same s1
    refine ⟨_, rfl, _, rfl, _, rfl, t', a', b', ps', qs', rfl, W1.t2, ok', W1.ra', W1.rb', fun G2 s2 => ⟨_, rfl, ifF rfl ?_⟩⟩
    have W2 := W1.but nap nbp nap' nbp' P1 (But.of s2)
    have P2 := P1.same s2
    refine ⟨_, rfl, _, rfl, _, rfl, _, rfl, _, rfl, p, t, a, b, ps, qs, n, _, rfl, P2, by omega, nap, nbp, W2.t1, ok, W2.ra, W2.rb, hn1, hn2, fun G3 b3 P3 => ⟨_, rfl, ifF rfl ?_⟩⟩
    have W3 := W2.but nap nbp nap' nbp' P2 b3
    refine ⟨_, rfl, _, rfl, _, rfl, _, rfl, p, t', a', b', ps', qs', 1, _, rfl, P3, by omega, nap', nbp', W3.t2, ok', W3.ra', W3.rb', by decide, by decide, fun G4 b4 P4 => ⟨_, rfl, ifF rfl ?_⟩⟩
    have W4 := W3.but nap nbp nap' nbp' P3 b4
    refine ⟨_, _, rfl, rfl, _, rfl, _, _, rfl, rfl, pow10 (by decide) (by decide), draw_of P4 (G (by omega)) p30' p30 fun x5 G5 b5 P5 x50 x51 => ?_⟩
    have W5 := W4.but nap nbp nap' nbp' P4 b5
    refine ⟨_, _, rfl, rfl, _, _, rfl, rfl, pow10 (by decide) (by decide), _, _, rfl, rfl, _, _, rfl, rfl, pow10 (by decide) (by decide), _, _, rfl, rfl, _, rfl, _, _, rfl, rfl, pow10 (by decide) (by decide), draw_of P5 (G (by omega)) p30' p30 fun x6 G6 b6 P6 x60 x61 => ?_⟩
    have W6 := W5.but nap nbp nap' nbp' P5 b6
    refine ⟨_, _, rfl, rfl, by show 4 ≤ sizeLine; decide, fun L hL => ?_⟩
    have y6 := sm0 (o := .lst ([0, 0 - 1 - x5, 10 ^ Int.toNat 6 + 1, 10 ^ Int.toNat 6 + 2 + x6].map V.int)) hL
    have W7 := W6.but nap nbp nap' nbp' P6 (But.of y6)
    have P7 := P6.same y6
    have hL7 : upd G6 L (.lst ([0, 0 - 1 - x5, 10 ^ Int.toNat 6 + 1, 10 ^ Int.toNat 6 + 2 + x6].map V.int)) L = some (.lst ([0, 0 - 1 - x5, 10 ^ Int.toNat 6 + 1, 10 ^ Int.toNat 6 + 2 + x6].map V.int)) := upd_same
    have hout : ∀ z ∈ [0, 0 - 1 - x5, 10 ^ Int.toNat 6 + 1, 10 ^ Int.toNat 6 + 2 + x6], z < 1 ∨ 1000000 < z := fun z hz => by
      rw [p6c] at hz
      rcases List.mem_cons.mp hz with rfl | hz
      · omega
      rcases List.mem_cons.mp hz with rfl | hz
      · omega
      rcases List.mem_cons.mp hz with rfl | hz
      · omega
      rcases List.mem_cons.mp hz with rfl | hz
      · omega
      cases hz
    refine ⟨L, rfl, ⟨_, SqL.of upd_same⟩, ?_⟩
    refine for_list (K := K) (a := L) (xs := [0, 0 - 1 - x5, 10 ^ Int.toNat 6 + 1, 10 ^ Int.toNat 6 + 2 + x6].map V.int) (fun i σ H' => ∃ v10 : Option V, σ = [some (.ref sc), some (.ref p), some (.int ed), some (.ref a), some (.ref b), some (.int n), some (.ref a'), some (.ref b'), some (.ref t), some (.ref t'), v10] ∧ Same (upd G6 L (.lst ([0, 0 - 1 - x5, 10 ^ Int.toNat 6 + 1, 10 ^ Int.toNat 6 + 2 + x6].map V.int))) H')
      ⟨none, rfl, Same.refl _⟩ (fun i σ H' _ h => by obtain ⟨_, _, sh⟩ := h; exact SqL.of (sh _ _ hL7)) (fun i x σ H' hx h => ?_) fun σ H' h => ?_
    · obtain ⟨v10, rfl, sh⟩ := h
      obtain ⟨z, hz, rfl⟩ := ints_at hx
      refine ⟨_, rfl, _, rfl, t, z, ps, qs, rfl, W7.t1.same sh, ok, hout z (List.mem_of_getElem? hz), fun q H2 s2 hq => ?_⟩
      refine ⟨_, rfl, by show 3 ≤ sizeLine; decide, fun r hr1 => ?_⟩
      refine same_of (da_three (atN hq hr1) upd_same) ⟨_, rfl, ifF rfl ?_⟩
      exact ⟨_, rfl, smN (sh.trans s2) hr1⟩
    · obtain ⟨v10, rfl, sh⟩ := h
      have W8 := W7.but nap nbp nap' nbp' P7 (But.of sh)
      have P8 := P7.same sh
      refine ⟨_, rfl, _, rfl, _, rfl, _, rfl, _, rfl, p, t', a', b', ps', qs', n, _, rfl, P8, by omega, nap', nbp', W8.t2, ok', W8.ra', W8.rb', hn1, hn2, fun G9 b9 P9 => ⟨_, rfl, iteT ?_⟩⟩
      have W9 := W8.but nap nbp nap' nbp' P8 b9
      exact ⟨_, rfl, _, rfl, _, rfl, _, rfl, p, t, a, b, ps, qs, 1, _, rfl, P9, by omega, nap, nbp, W9.t1, ok, W9.ra, W9.rb, by decide, by decide, fun G10 b10 P10 => k G10⟩
end
end K14
set_option maxRecDepth 100000
set_option maxHeartbeats 4000000
open PySem PySem.W PyProof.Rows L2 SI K14
set_option maxRecDepth 100000 in
set_option maxHeartbeats 0 in
theorem PySem.Challenge.cw_pebblesreach_k14_tree_sure_holds : PySem.Challenge.rw_pebblesreach_k14_tree_sure.Holds := by
  w_on; o_law; k_head; (case hw => w_witness2)
  k_fill
  refine walkK (l := PySem.Challenge.rw_pebblesreach_k14_tree_sure) (n := 63) (k := 14) (x := "script") (sp := spLaw) rfl (by decide) rfl ⟨rfl, by decide, by decide⟩ (fun K H a ns hl hS => ⟨a, ns, rfl, hS, hl, fun _ => rfl⟩) (fun w h Y => PySem.W.kIn_of Y) ?F
  case F =>
    intro w mg fa h KX G hmg
    refine' exc_at (x := "PebbleError") KX G ?h1a ?h1l ?h1rf ?h1sa ?h1exC ?h1tyC ?h1kC ?h1ga ?h1gg ?h1hd ?h1ac ?h1mo fun g_PebbleError o_PebbleError e_PebbleError => ?_
    (case h1a => k_is)
    (case h1l => k_is)
    (case h1rf => decide +kernel)
    (case h1sa => k_is)
    (case h1exC => k_is)
    (case h1tyC => k_is)
    (case h1kC => k_is)
    (case h1ga => k_is)
    (case h1gg => k_is)
    (case h1hd => k_is)
    (case h1ac => k_is)
    (case h1mo => k_is)
    refine' exc_at (x := "BadCount") KX G ?h2a ?h2l ?h2rf ?h2sa ?h2exC ?h2tyC ?h2kC ?h2ga ?h2gg ?h2hd ?h2ac ?h2mo fun g_BadCount o_BadCount e_BadCount => ?_
    (case h2a => k_is)
    (case h2l => k_is)
    (case h2rf => decide +kernel)
    (case h2sa => k_is)
    (case h2exC => k_is)
    (case h2tyC => k_is)
    (case h2kC => k_is)
    (case h2ga => k_is)
    (case h2gg => k_is)
    (case h2hd => k_is)
    (case h2ac => k_is)
    (case h2mo => k_is)
    refine' exc_at (x := "NotPebbles") KX G ?h3a ?h3l ?h3rf ?h3sa ?h3exC ?h3tyC ?h3kC ?h3ga ?h3gg ?h3hd ?h3ac ?h3mo fun g_NotPebbles o_NotPebbles e_NotPebbles => ?_
    (case h3a => k_is)
    (case h3l => k_is)
    (case h3rf => decide +kernel)
    (case h3sa => k_is)
    (case h3exC => k_is)
    (case h3tyC => k_is)
    (case h3kC => k_is)
    (case h3ga => k_is)
    (case h3gg => k_is)
    (case h3hd => k_is)
    (case h3ac => k_is)
    (case h3mo => k_is)
    refine' exc_at (x := "NoNode") KX G ?h4a ?h4l ?h4rf ?h4sa ?h4exC ?h4tyC ?h4kC ?h4ga ?h4gg ?h4hd ?h4ac ?h4mo fun g_NoNode o_NoNode e_NoNode => ?_
    (case h4a => k_is)
    (case h4l => k_is)
    (case h4rf => decide +kernel)
    (case h4sa => k_is)
    (case h4exC => k_is)
    (case h4tyC => k_is)
    (case h4kC => k_is)
    (case h4ga => k_is)
    (case h4gg => k_is)
    (case h4hd => k_is)
    (case h4ac => k_is)
    (case h4mo => k_is)
    refine' exc_at (x := "UnlikeWidths") KX G ?h5a ?h5l ?h5rf ?h5sa ?h5exC ?h5tyC ?h5kC ?h5ga ?h5gg ?h5hd ?h5ac ?h5mo fun g_UnlikeWidths o_UnlikeWidths e_UnlikeWidths => ?_
    (case h5a => k_is)
    (case h5l => k_is)
    (case h5rf => decide +kernel)
    (case h5sa => k_is)
    (case h5exC => k_is)
    (case h5tyC => k_is)
    (case h5kC => k_is)
    (case h5ga => k_is)
    (case h5gg => k_is)
    (case h5hd => k_is)
    (case h5ac => k_is)
    (case h5mo => k_is)
    refine' exc_at (x := "WrongWidth") KX G ?h6a ?h6l ?h6rf ?h6sa ?h6exC ?h6tyC ?h6kC ?h6ga ?h6gg ?h6hd ?h6ac ?h6mo fun g_WrongWidth o_WrongWidth e_WrongWidth => ?_
    (case h6a => k_is)
    (case h6l => k_is)
    (case h6rf => decide +kernel)
    (case h6sa => k_is)
    (case h6exC => k_is)
    (case h6tyC => k_is)
    (case h6kC => k_is)
    (case h6ga => k_is)
    (case h6gg => k_is)
    (case h6hd => k_is)
    (case h6ac => k_is)
    (case h6mo => k_is)
    refine' exc_at (x := "BadParent") KX G ?h7a ?h7l ?h7rf ?h7sa ?h7exC ?h7tyC ?h7kC ?h7ga ?h7gg ?h7hd ?h7ac ?h7mo fun g_BadParent o_BadParent e_BadParent => ?_
    (case h7a => k_is)
    (case h7l => k_is)
    (case h7rf => decide +kernel)
    (case h7sa => k_is)
    (case h7exC => k_is)
    (case h7tyC => k_is)
    (case h7kC => k_is)
    (case h7ga => k_is)
    (case h7gg => k_is)
    (case h7hd => k_is)
    (case h7ac => k_is)
    (case h7mo => k_is)
    refine' exc_at (x := "BadPrice") KX G ?h8a ?h8l ?h8rf ?h8sa ?h8exC ?h8tyC ?h8kC ?h8ga ?h8gg ?h8hd ?h8ac ?h8mo fun g_BadPrice o_BadPrice e_BadPrice => ?_
    (case h8a => k_is)
    (case h8l => k_is)
    (case h8rf => decide +kernel)
    (case h8sa => k_is)
    (case h8exC => k_is)
    (case h8tyC => k_is)
    (case h8kC => k_is)
    (case h8ga => k_is)
    (case h8gg => k_is)
    (case h8hd => k_is)
    (case h8ac => k_is)
    (case h8mo => k_is)
    refine' sup_at (P := PySem.Challenge.rw_pebblesreach_k14_tree_sure.prog) (qual := "BadCount.__init__") (st := sBadCountInit) KX G o_BadCount rfl ?h9i ?h9t ?h9l ?h9c ?h9lc ?h9hf ?h9hm ?h9lcc ?h9self ?h9sup ?h9sub ?h9z ?h9any ?h9top fun fd_BadCount s_BadCount i_BadCount t_BadCount x_BadCount => ?_
    (case h9i => k_is)
    (case h9t => k_is)
    (case h9l => k_is)
    (case h9c => k_is)
    (case h9lc => k_is)
    (case h9hf => rfl)
    (case h9hm => first | rfl | decide +kernel)
    (case h9lcc => k_is)
    (case h9self => k_is)
    (case h9sup => ks_is)
    (case h9sub => k_is)
    (case h9z => k_is)
    (case h9any => k_is)
    (case h9top => decide +kernel)
    refine' sup_at (P := PySem.Challenge.rw_pebblesreach_k14_tree_sure.prog) (qual := "NotPebbles.__init__") (st := sNotPebblesInit) KX G o_NotPebbles rfl ?h10i ?h10t ?h10l ?h10c ?h10lc ?h10hf ?h10hm ?h10lcc ?h10self ?h10sup ?h10sub ?h10z ?h10any ?h10top fun fd_NotPebbles s_NotPebbles i_NotPebbles t_NotPebbles x_NotPebbles => ?_
    (case h10i => k_is)
    (case h10t => k_is)
    (case h10l => k_is)
    (case h10c => k_is)
    (case h10lc => k_is)
    (case h10hf => rfl)
    (case h10hm => first | rfl | decide +kernel)
    (case h10lcc => k_is)
    (case h10self => k_is)
    (case h10sup => ks_is)
    (case h10sub => k_is)
    (case h10z => k_is)
    (case h10any => k_is)
    (case h10top => decide +kernel)
    refine' sup_at (P := PySem.Challenge.rw_pebblesreach_k14_tree_sure.prog) (qual := "NoNode.__init__") (st := sNoNodeInit) KX G o_NoNode rfl ?h11i ?h11t ?h11l ?h11c ?h11lc ?h11hf ?h11hm ?h11lcc ?h11self ?h11sup ?h11sub ?h11z ?h11any ?h11top fun fd_NoNode s_NoNode i_NoNode t_NoNode x_NoNode => ?_
    (case h11i => k_is)
    (case h11t => k_is)
    (case h11l => k_is)
    (case h11c => k_is)
    (case h11lc => k_is)
    (case h11hf => rfl)
    (case h11hm => first | rfl | decide +kernel)
    (case h11lcc => k_is)
    (case h11self => k_is)
    (case h11sup => ks_is)
    (case h11sub => k_is)
    (case h11z => k_is)
    (case h11any => k_is)
    (case h11top => decide +kernel)
    refine' sup_at (P := PySem.Challenge.rw_pebblesreach_k14_tree_sure.prog) (qual := "WrongWidth.__init__") (st := sWrongWidthInit) KX G o_WrongWidth rfl ?h12i ?h12t ?h12l ?h12c ?h12lc ?h12hf ?h12hm ?h12lcc ?h12self ?h12sup ?h12sub ?h12z ?h12any ?h12top fun fd_WrongWidth s_WrongWidth i_WrongWidth t_WrongWidth x_WrongWidth => ?_
    (case h12i => k_is)
    (case h12t => k_is)
    (case h12l => k_is)
    (case h12c => k_is)
    (case h12lc => k_is)
    (case h12hf => rfl)
    (case h12hm => first | rfl | decide +kernel)
    (case h12lcc => k_is)
    (case h12self => k_is)
    (case h12sup => ks_is)
    (case h12sub => k_is)
    (case h12z => k_is)
    (case h12any => k_is)
    (case h12top => decide +kernel)
    refine' sup_at (P := PySem.Challenge.rw_pebblesreach_k14_tree_sure.prog) (qual := "BadParent.__init__") (st := sBadParentInit) KX G o_BadParent rfl ?h13i ?h13t ?h13l ?h13c ?h13lc ?h13hf ?h13hm ?h13lcc ?h13self ?h13sup ?h13sub ?h13z ?h13any ?h13top fun fd_BadParent s_BadParent i_BadParent t_BadParent x_BadParent => ?_
    (case h13i => k_is)
    (case h13t => k_is)
    (case h13l => k_is)
    (case h13c => k_is)
    (case h13lc => k_is)
    (case h13hf => rfl)
    (case h13hm => first | rfl | decide +kernel)
    (case h13lcc => k_is)
    (case h13self => k_is)
    (case h13sup => ks_is)
    (case h13sub => k_is)
    (case h13z => k_is)
    (case h13any => k_is)
    (case h13top => decide +kernel)
    refine' sup_at (P := PySem.Challenge.rw_pebblesreach_k14_tree_sure.prog) (qual := "BadPrice.__init__") (st := sBadPriceInit) KX G o_BadPrice rfl ?h14i ?h14t ?h14l ?h14c ?h14lc ?h14hf ?h14hm ?h14lcc ?h14self ?h14sup ?h14sub ?h14z ?h14any ?h14top fun fd_BadPrice s_BadPrice i_BadPrice t_BadPrice x_BadPrice => ?_
    (case h14i => k_is)
    (case h14t => k_is)
    (case h14l => k_is)
    (case h14c => k_is)
    (case h14lc => k_is)
    (case h14hf => rfl)
    (case h14hm => first | rfl | decide +kernel)
    (case h14lcc => k_is)
    (case h14self => k_is)
    (case h14sup => ks_is)
    (case h14sub => k_is)
    (case h14z => k_is)
    (case h14any => k_is)
    (case h14top => decide +kernel)
    refine' mak_at (x := "Tree") (qual := "Tree.__init__") (st := sTreeInit) (ps := ["self", "parents", "prices"]) KX G (fun _ _ _ _ _ _ us hl => match us, hl with | [_, _, _], _ => rfl) ?h15a ?h15mk ?h15i ?h15n ?h15kc ?h15l ?h15c ?h15k fun m_Tree => ?_
    (case h15a => k_is)
    (case h15mk => k_is)
    (case h15i => k_is)
    (case h15n => k_is)
    (case h15kc => k_is)
    (case h15l => k_is)
    (case h15c => k_is)
    (case h15k => k_is)
    refine' mak_at (x := "Pebbles") (qual := "Pebbles.__init__") (st := sPebblesInit) (ps := ["self", "counts"]) KX G (fun _ _ _ _ _ _ us hl => match us, hl with | [_, _], _ => rfl) ?h16a ?h16mk ?h16i ?h16n ?h16kc ?h16l ?h16c ?h16k fun m_Pebbles => ?_
    (case h16a => k_is)
    (case h16mk => k_is)
    (case h16i => k_is)
    (case h16n => k_is)
    (case h16kc => k_is)
    (case h16l => k_is)
    (case h16c => k_is)
    (case h16k => k_is)
    refine' def_at (x := "check_counts") (st := sCheckCounts) (ps := ["many"]) KX G (fun _ _ _ _ _ _ us hl => match us, hl with | [_], _ => rfl) ?h17a ?h17l ?h17c ?h17k fun d_check_counts => ?_
    (case h17a => k_is)
    (case h17l => k_is)
    (case h17c => k_is)
    (case h17k => k_is)
    refine' def_at (x := "check_entries") (st := sCheckEntries) (ps := ["counts"]) KX G (fun _ _ _ _ _ _ us hl => match us, hl with | [_], _ => rfl) ?h18a ?h18l ?h18c ?h18k fun d_check_entries => ?_
    (case h18a => k_is)
    (case h18l => k_is)
    (case h18c => k_is)
    (case h18k => k_is)
    refine' def_at (x := "heights") (st := sHeights) (ps := ["tree"]) KX G (fun _ _ _ _ _ _ us hl => match us, hl with | [_], _ => rfl) ?h19a ?h19l ?h19c ?h19k fun d_heights => ?_
    (case h19a => k_is)
    (case h19l => k_is)
    (case h19c => k_is)
    (case h19k => k_is)
    refine' def_at (x := "main_children") (st := sMainChildren) (ps := ["tree"]) KX G (fun _ _ _ _ _ _ us hl => match us, hl with | [_], _ => rfl) ?h20a ?h20l ?h20c ?h20k fun d_main_children => ?_
    (case h20a => k_is)
    (case h20l => k_is)
    (case h20c => k_is)
    (case h20k => k_is)
    refine' def_at (x := "path_down") (st := sPathDown) (ps := ["main", "top", "second"]) KX G (fun _ _ _ _ _ _ us hl => match us, hl with | [_, _, _], _ => rfl) ?h21a ?h21l ?h21c ?h21k fun d_path_down => ?_
    (case h21a => k_is)
    (case h21l => k_is)
    (case h21c => k_is)
    (case h21k => k_is)
    refine' def_at (x := "paths") (st := sPaths) (ps := ["tree"]) KX G (fun _ _ _ _ _ _ us hl => match us, hl with | [_], _ => rfl) ?h22a ?h22l ?h22c ?h22k fun d_paths => ?_
    (case h22a => k_is)
    (case h22l => k_is)
    (case h22c => k_is)
    (case h22k => k_is)
    refine' def_at (x := "path_product") (st := sPathProduct) (ps := ["tree", "path"]) KX G (fun _ _ _ _ _ _ us hl => match us, hl with | [_, _], _ => rfl) ?h23a ?h23l ?h23c ?h23k fun d_path_product => ?_
    (case h23a => k_is)
    (case h23l => k_is)
    (case h23c => k_is)
    (case h23k => k_is)
    refine' def_at (x := "check_wanted") (st := sCheckWanted) (ps := ["many"]) KX G (fun _ _ _ _ _ _ us hl => match us, hl with | [_], _ => rfl) ?h24a ?h24l ?h24c ?h24k fun d_check_wanted => ?_
    (case h24a => k_is)
    (case h24l => k_is)
    (case h24c => k_is)
    (case h24k => k_is)
    refine' def_at (x := "line") (st := sLine) (ps := ["tree"]) KX G (fun _ _ _ _ _ _ us hl => match us, hl with | [_], _ => rfl) ?h25a ?h25l ?h25c ?h25k fun d_line => ?_
    (case h25a => k_is)
    (case h25l => k_is)
    (case h25c => k_is)
    (case h25k => k_is)
    refine' defd_at (x := "tree_enough") (st := sTreeEnough) (dvs := [.int 1]) KX G ?h26a ?h26l ?h26c ?h26k ?h26t ?h26hd ?h26hv fun d_tree_enough => ?_
    (case h26a => k_is)
    (case h26l => k_is)
    (case h26c => k_is)
    (case h26k => k_is)
    (case h26t => k_is)
    (case h26hd => decide)
    (case h26hv => exact .cons ⟨_, rfl⟩ .nil)
    refine' defd_at (x := "tree_worst") (st := sTreeWorst) (dvs := [.int 1]) KX G ?h27a ?h27l ?h27c ?h27k ?h27t ?h27hd ?h27hv fun d_tree_worst => ?_
    (case h27a => k_is)
    (case h27l => k_is)
    (case h27c => k_is)
    (case h27k => k_is)
    (case h27t => k_is)
    (case h27hd => decide)
    (case h27hv => exact .cons ⟨_, rfl⟩ .nil)
    refine' def_at (x := "check_tree_width") (st := sCheckTreeWidth) (ps := ["tree", "placing"]) KX G (fun _ _ _ _ _ _ us hl => match us, hl with | [_, _], _ => rfl) ?h28a ?h28l ?h28c ?h28k fun d_check_tree_width => ?_
    (case h28a => k_is)
    (case h28l => k_is)
    (case h28c => k_is)
    (case h28k => k_is)
    refine' def_at (x := "tree_ups") (st := sTreeUps) (ps := ["tree", "placing"]) KX G (fun _ _ _ _ _ _ us hl => match us, hl with | [_, _], _ => rfl) ?h29a ?h29l ?h29c ?h29k fun d_tree_ups => ?_
    (case h29a => k_is)
    (case h29l => k_is)
    (case h29c => k_is)
    (case h29k => k_is)
    refine' def_at (x := "tree_most") (st := sTreeMost) (ps := ["tree", "placing"]) KX G (fun _ _ _ _ _ _ us hl => match us, hl with | [_, _], _ => rfl) ?h30a ?h30l ?h30c ?h30k fun d_tree_most => ?_
    (case h30a => k_is)
    (case h30l => k_is)
    (case h30c => k_is)
    (case h30k => k_is)
    refine' def_at (x := "check_edges") (st := sCheckEdges) (ps := ["parents", "prices"]) KX G (fun _ _ _ _ _ _ us hl => match us, hl with | [_, _], _ => rfl) ?h31a ?h31l ?h31c ?h31k fun d_check_edges => ?_
    (case h31a => k_is)
    (case h31l => k_is)
    (case h31c => k_is)
    (case h31k => k_is)
    refine' met_atX (x := "Tree") (m := "children") (qual := "Tree.children") (st := sTreeChildren) (ps := ["self", "node"]) KX (fun _ _ _ _ _ _ us hl => match us, hl with | [_, _], _ => rfl) ?h32a ?h32hC ?h32i ?h32n ?h32l ?h32c ?h32k fun d_Tree_children => ?_
    (case h32a => k_is)
    (case h32hC => exact ⟨by k_is, by k_is, by k_is, by k_is⟩)
    (case h32i => k_is)
    (case h32n => k_is)
    (case h32l => k_is)
    (case h32c => k_is)
    (case h32k => k_is)
    refine' def_at (x := "_law_take_cells") (st := sLTakeCells) (ps := ["script"]) KX G (fun _ _ _ _ _ _ us hl => match us, hl with | [_], _ => rfl) ?h33a ?h33l ?h33c ?h33k fun d__law_take_cells => ?_
    (case h33a => k_is)
    (case h33l => k_is)
    (case h33c => k_is)
    (case h33k => k_is)
    refine' def_at (x := "_law_draw") (st := sLDraw) (ps := ["pool", "many"]) KX G (fun _ _ _ _ _ _ us hl => match us, hl with | [_, _], _ => rfl) ?h34a ?h34l ?h34c ?h34k fun d__law_draw => ?_
    (case h34a => k_is)
    (case h34l => k_is)
    (case h34c => k_is)
    (case h34k => k_is)
    refine' def_at (x := "_law_same") (st := sLSame) (ps := ["told", "due"]) KX G (fun _ _ _ _ _ _ us hl => match us, hl with | [_, _], _ => rfl) ?h35a ?h35l ?h35c ?h35k fun d__law_same => ?_
    (case h35a => k_is)
    (case h35l => k_is)
    (case h35c => k_is)
    (case h35k => k_is)
    refine' def_at (x := "_law_parent_row") (st := sLParentRow) (ps := ["pool", "edges"]) KX G (fun _ _ _ _ _ _ us hl => match us, hl with | [_, _], _ => rfl) ?h36a ?h36l ?h36c ?h36k fun d__law_parent_row => ?_
    (case h36a => k_is)
    (case h36l => k_is)
    (case h36c => k_is)
    (case h36k => k_is)
    refine' def_at (x := "_law_price_row") (st := sLPriceRow) (ps := ["pool", "edges"]) KX G (fun _ _ _ _ _ _ us hl => match us, hl with | [_, _], _ => rfl) ?h37a ?h37l ?h37c ?h37k fun d__law_price_row => ?_
    (case h37a => k_is)
    (case h37l => k_is)
    (case h37c => k_is)
    (case h37k => k_is)
    refine' def_at (x := "_law_height_row") (st := sLHeightRow) (ps := ["parents", "prices"]) KX G (fun _ _ _ _ _ _ us hl => match us, hl with | [_, _], _ => rfl) ?h38a ?h38l ?h38c ?h38k fun d__law_height_row => ?_
    (case h38a => k_is)
    (case h38l => k_is)
    (case h38c => k_is)
    (case h38k => k_is)
    refine' def_at (x := "_law_line_of") (st := sLLineOf) (ps := ["parents", "prices"]) KX G (fun _ _ _ _ _ _ us hl => match us, hl with | [_, _], _ => rfl) ?h39a ?h39l ?h39c ?h39k fun d__law_line_of => ?_
    (case h39a => k_is)
    (case h39l => k_is)
    (case h39c => k_is)
    (case h39k => k_is)
    refine' def_at (x := "_law_worst_row") (st := sLWorstRow) (ps := ["parents", "prices", "many"]) KX G (fun _ _ _ _ _ _ us hl => match us, hl with | [_, _, _], _ => rfl) ?h40a ?h40l ?h40c ?h40k fun d__law_worst_row => ?_
    (case h40a => k_is)
    (case h40l => k_is)
    (case h40c => k_is)
    (case h40k => k_is)
    refine' def_at (x := "_law_brought") (st := sLBrought) (ps := ["parents", "prices", "counts"]) KX G (fun _ _ _ _ _ _ us hl => match us, hl with | [_, _, _], _ => rfl) ?h41a ?h41l ?h41c ?h41k fun d__law_brought => ?_
    (case h41a => k_is)
    (case h41l => k_is)
    (case h41c => k_is)
    (case h41k => k_is)
    refine' def_at (x := "_law_spread") (st := sLSpread) (ps := ["pool", "nodes", "total"]) KX G (fun _ _ _ _ _ _ us hl => match us, hl with | [_, _, _], _ => rfl) ?h42a ?h42l ?h42c ?h42k fun d__law_spread => ?_
    (case h42a => k_is)
    (case h42l => k_is)
    (case h42c => k_is)
    (case h42k => k_is)
    refine' def_at (x := "_law_near") (st := sLNear) (ps := ["pool", "counts"]) KX G (fun _ _ _ _ _ _ us hl => match us, hl with | [_, _], _ => rfl) ?h43a ?h43l ?h43c ?h43k fun d__law_near => ?_
    (case h43a => k_is)
    (case h43l => k_is)
    (case h43c => k_is)
    (case h43k => k_is)
    refine' def_at (x := "_law_try") (st := sLTry) (ps := ["tree", "many"]) KX G (fun _ _ _ _ _ _ us hl => match us, hl with | [_, _], _ => rfl) ?h44a ?h44l ?h44c ?h44k fun d__law_try => ?_
    (case h44a => k_is)
    (case h44l => k_is)
    (case h44c => k_is)
    (case h44k => k_is)
    refine' def_at (x := "_law_is_worst") (st := sLIsWorst) (ps := ["told", "counts"]) KX G (fun _ _ _ _ _ _ us hl => match us, hl with | [_, _], _ => rfl) ?h45a ?h45l ?h45c ?h45k fun d__law_is_worst => ?_
    (case h45a => k_is)
    (case h45l => k_is)
    (case h45c => k_is)
    (case h45k => k_is)
    refine' def_at (x := "_law_brings") (st := sLBrings) (ps := ["tree", "parents", "prices", "counts", "least"]) KX G (fun _ _ _ _ _ _ us hl => match us, hl with | [_, _, _, _, _], _ => rfl) ?h46a ?h46l ?h46c ?h46k fun d__law_brings => ?_
    (case h46a => k_is)
    (case h46l => k_is)
    (case h46c => k_is)
    (case h46k => k_is)
    refine' def_at (x := "_law_sure") (st := sLSure) (ps := ["pool", "tree", "parents", "prices", "many"]) KX G (fun _ _ _ _ _ _ us hl => match us, hl with | [_, _, _, _, _], _ => rfl) ?h47a ?h47l ?h47c ?h47k fun d__law_sure => ?_
    (case h47a => k_is)
    (case h47l => k_is)
    (case h47c => k_is)
    (case h47k => k_is)
    refine' def_at (x := "_law_first") (st := sLFirst) (ps := ["tree", "parents", "prices"]) KX G (fun _ _ _ _ _ _ us hl => match us, hl with | [_, _, _], _ => rfl) ?h48a ?h48l ?h48c ?h48k fun d__law_first => ?_
    (case h48a => k_is)
    (case h48l => k_is)
    (case h48c => k_is)
    (case h48k => k_is)
    refine' def_at (x := "law") (st := sLaw) (ps := ["script"]) KX G (fun _ _ _ _ _ _ us hl => match us, hl with | [_], _ => rfl) ?h49a ?h49l ?h49c ?h49k fun d_law => ?_
    (case h49a => k_is)
    (case h49l => k_is)
    (case h49c => k_is)
    (case h49k => k_is)
    refine' int_is (x := "MOST_PRICE") KX G ?cMOST_PRICE fun c_MOST_PRICE => ?_
    (case cMOST_PRICE => k_is)
    refine' int_is (x := "LEAST_PRICE") KX G ?cLEAST_PRICE fun c_LEAST_PRICE => ?_
    (case cLEAST_PRICE => k_is)
    refine' int_is (x := "MOST_TREE_NODES") KX G ?cMOST_TREE_NODES fun c_MOST_TREE_NODES => ?_
    (case cMOST_TREE_NODES => k_is)
    refine' int_is (x := "MOST_MANY") KX G ?cMOST_MANY fun c_MOST_MANY => ?_
    (case cMOST_MANY => k_is)
    refine' int_is (x := "MOST") KX G ?cMOST fun c_MOST => ?_
    (case cMOST => k_is)
    refine' int_is (x := "MOST_NODES") KX G ?cMOST_NODES fun c_MOST_NODES => ?_
    (case cMOST_NODES => k_is)
    refine' law_at (x := "law") (y := "script") (st := sLaw) KX G hmg (fun _ _ _ _ _ _ us hl => match us, hl with | [_], _ => rfl) ?la ?lb (fun base => ok_Law (Ad1 := _) (Ad2 := _) (Ad3 := _) (Ad4 := _) (Ad5 := _) (Ad6 := _) (Ad9 := _) (Ad10 := _) (Ad11 := _) (Ad12 := _) {
      b_len := PySem.W.mg_none_of KX G (by k_is)
      b_int := PySem.W.mg_none_of KX G (by k_is)
      b_tuple := PySem.W.mg_none_of KX G (by k_is)
      b_list := PySem.W.mg_none_of KX G (by k_is)
      b_range := PySem.W.mg_none_of KX G (by k_is)
      b_isinstance := PySem.W.mg_none_of KX G (by k_is)
      b_bool := PySem.W.mg_none_of KX G (by k_is)
      b_ValueError := PySem.W.mg_none_of KX G (by k_is)
      b_enumerate := PySem.W.mg_none_of KX G (by k_is)
      b_max := PySem.W.mg_none_of KX G (by k_is)
      b_min := PySem.W.mg_none_of KX G (by k_is)
      b_sum := PySem.W.mg_none_of KX G (by k_is)
      b_str := PySem.W.mg_none_of KX G (by k_is)
      c_MOST_PRICE := int_as (by decide +kernel) c_MOST_PRICE
      c_LEAST_PRICE := int_as (by decide +kernel) c_LEAST_PRICE
      c_MOST_TREE_NODES := int_as (by decide +kernel) c_MOST_TREE_NODES
      c_MOST_MANY := int_as (by decide +kernel) c_MOST_MANY
      c_MOST := int_as (by decide +kernel) c_MOST
      c_MOST_NODES := int_as (by decide +kernel) c_MOST_NODES
      rBadCount := rs2 o_BadCount g_BadCount i_BadCount t_BadCount (errB_ok (k := 0) s_BadCount (NdefX.nscope_by (by decide +kernel)) (by decide) (by decide) rfl rfl (by decide +kernel) (by k_is) (by k_is) (fun _ => rfl) (by decide) (by decide) (by decide) (by decide)) (bindX (fun _ _ _ _ _ _ _ us hl => match us, hl with | [_, _, _], _ => rfl) x_BadCount) (by decide)
      rNotPebbles := rs1 o_NotPebbles g_NotPebbles i_NotPebbles t_NotPebbles (err1_ok (k := 0) s_NotPebbles (NdefX.nscope_by (by decide +kernel)) rfl rfl (by decide +kernel) (by k_is) (fun _ => rfl) (by decide) (by decide)) (bindX (fun _ _ _ _ _ _ _ us hl => match us, hl with | [_, _], _ => rfl) x_NotPebbles) (by decide)
      rNoNode := rs1 o_NoNode g_NoNode i_NoNode t_NoNode (err1_ok (k := 0) s_NoNode (NdefX.nscope_by (by decide +kernel)) rfl rfl (by decide +kernel) (by k_is) (fun _ => rfl) (by decide) (by decide)) (bindX (fun _ _ _ _ _ _ _ us hl => match us, hl with | [_, _], _ => rfl) x_NoNode) (by decide)
      rWrongWidth := rs2 o_WrongWidth g_WrongWidth i_WrongWidth t_WrongWidth (err2_ok (k := 0) s_WrongWidth (NdefX.nscope_by (by decide +kernel)) rfl rfl (by decide +kernel) (by k_is) (by k_is) (fun _ => rfl) (by decide) (by decide) (by decide) (by decide)) (bindX (fun _ _ _ _ _ _ _ us hl => match us, hl with | [_, _, _], _ => rfl) x_WrongWidth) (by decide)
      rBadParent := rs1 o_BadParent g_BadParent i_BadParent t_BadParent (err1_ok (k := 0) s_BadParent (NdefX.nscope_by (by decide +kernel)) rfl rfl (by decide +kernel) (by k_is) (fun _ => rfl) (by decide) (by decide)) (bindX (fun _ _ _ _ _ _ _ us hl => match us, hl with | [_, _], _ => rfl) x_BadParent) (by decide)
      rBadPrice := rs1 o_BadPrice g_BadPrice i_BadPrice t_BadPrice (err1_ok (k := 0) s_BadPrice (NdefX.nscope_by (by decide +kernel)) rfl rfl (by decide +kernel) (by k_is) (fun _ => rfl) (by decide) (by decide)) (bindX (fun _ _ _ _ _ _ _ us hl => match us, hl with | [_, _], _ => rfl) x_BadPrice) (by decide)
      m_Tree := m_Tree
      lTree := ⟨by k_is, by k_is, by k_is, by k_is⟩
      nTree_nodes := by unfold L2.NoAttr; k_is
      nTree_parents := by unfold L2.NoAttr; k_is
      nTree_prices := by unfold L2.NoAttr; k_is
      m_Pebbles := m_Pebbles
      lPebbles := ⟨by k_is, by k_is, by k_is, by k_is⟩
      nPebbles_counts := by unfold L2.NoAttr; k_is
      nPebbles_nodes := by unfold L2.NoAttr; k_is
      nPebbles_size := by unfold L2.NoAttr; k_is
      d_check_counts := d_check_counts
      d_check_entries := d_check_entries
      d_heights := d_heights
      d_main_children := d_main_children
      d_path_down := d_path_down
      d_paths := d_paths
      d_path_product := d_path_product
      d_check_wanted := d_check_wanted
      d_line := d_line
      d_tree_enough := d_tree_enough
      d_tree_worst := d_tree_worst
      d_check_tree_width := d_check_tree_width
      d_tree_ups := d_tree_ups
      d_tree_most := d_tree_most
      d_check_edges := d_check_edges
      d_Tree_children := d_Tree_children
      d__law_take_cells := d__law_take_cells
      d__law_draw := d__law_draw
      d__law_same := d__law_same
      d__law_parent_row := d__law_parent_row
      d__law_price_row := d__law_price_row
      d__law_height_row := d__law_height_row
      d__law_line_of := d__law_line_of
      d__law_worst_row := d__law_worst_row
      d__law_brought := d__law_brought
      d__law_spread := d__law_spread
      d__law_near := d__law_near
      d__law_try := d__law_try
      d__law_is_worst := d__law_is_worst
      d__law_brings := d__law_brings
      d__law_sure := d__law_sure
      d__law_first := d__law_first
      d_law := d_law
      gPebbleError := g_PebbleError
      gBadCount := g_BadCount
      gNotPebbles := g_NotPebbles
      gNoNode := g_NoNode
      gUnlikeWidths := g_UnlikeWidths
      gWrongWidth := g_WrongWidth
      gBadParent := g_BadParent
      gBadPrice := g_BadPrice
      gTree := PySem.W.mg_of KX G (by k_is)
      gPebbles := PySem.W.mg_of KX G (by k_is)
      ek := ⟨by k_is, by k_is⟩
      eBadCount := e_BadCount
      fBadCount_what := by k_is
      fBadCount_many := by k_is
      xBadCount_PebbleError := xm_at e_PebbleError o_PebbleError (by k_is)
      tBadCount_BadCount := kit_self
      tBadCount_NotPebbles := kit_ref e_NotPebbles o_NotPebbles (by decide) (by k_is)
      tBadCount_WrongWidth := kit_ref e_WrongWidth o_WrongWidth (by decide) (by k_is)
      iTree := ⟨by k_is, by k_is, by k_is, by k_is⟩
      iPebbles := ⟨by k_is, by k_is, by k_is, by k_is⟩ })
    (case lb => k_is); (case la => k_is)
#print axioms PySem.Challenge.cw_pebblesreach_k14_tree_sure_holds
